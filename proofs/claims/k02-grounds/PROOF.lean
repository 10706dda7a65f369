import PyProof.Rows.All
import Wide.All
import OpenK.AllK
import Wide.FinOn
import HandS.ForMost
import HandS.ForExc
import HandS.IsInst
import HandS.TupAny
import HandS.Wide
import HandS.TupMul
import HandS.TryMany
import HandS.More
import PyProof.LongRange
import HandS.Zip
import HandS.Style
import PyProof.StrOps2
import HandS.ExcInit
import HandS.ExcField
import HandS.Deep
import HandS.ExcIs
import KE.GoesEnum
import HandS.Strs
import HandS.Conv
import HandS.OwnEq
import HandS.Text
import PySem.Challenge.RW_guessedworlds_k02_grounds_judged_and_ope
set_option Elab.async false
set_option linter.all false
set_option maxRecDepth 100000
set_option maxHeartbeats 4000000
/-! room in which no guard stands (repr may be asked), defs by such room, things that are frozen -/
namespace VD
open PySem PySem.Spec PyProof.Rows L2

/-- a list that is never written: the script, one that was frozen -/
def CL (K : PySem.W.Frag) (H : Hp) (a : Addr) (xs : List V) : Prop :=
  (∃ o, H a = some (.frz o (.lst xs))) ∨ ∃ (its : Array Value) (n : Nat), K.lookup a = some { cls := .type "list", data := .seq its n } ∧ its.size ≤ sizeLine ∧ Vals xs its.toList
theorem CL.sq {K : PySem.W.Frag} {H : Hp} {a : Addr} {xs : List V} (h : CL K H a xs) : SqL K H a xs := by
  rcases h with h | ⟨its, n, h1, h2, h3⟩
  · exact .inl (.inr h)
  · exact .inr ⟨_, its, n, h1, rfl, rfl, rfl, h2, h3⟩
/-- a list, as it stands -/
def LC (K : PySem.W.Frag) (H : Hp) (a : Addr) (xs : List V) : Prop := H a = some (.lst xs) ∨ CL K H a xs
theorem LC.sq {K : PySem.W.Frag} {H : Hp} {a : Addr} {xs : List V} (h : LC K H a xs) : SqL K H a xs := h.elim (fun h => .inl (.inl h)) CL.sq
section
variable {X : Cx} {pins : List (Addr × Obj)} {σ : L2.St} {H : Hp} {s : Shared} {l : Addr} {xs : List V}
theorem LC.at_ (I : Inv X pins σ H s) (h : LC X.K H l xs) : xs.length ≤ sizeLine ∧ ∃ (its : List Value) (n : Nat), Vals xs its ∧ xs.length = its.length ∧ s.heap.get? l = some { cls := .type "list", data := .seq its.toArray n } := by
  rcases h with h | ⟨o, h⟩ | ⟨its, n, h1, h2, h3⟩
  · exact I.lstM h
  · obtain ⟨_, z, its, n, r, e⟩ := (show ObjOk X.prog X.w H s.heap l (.frz o (.lst xs)) from I.hok l _ h)
    exact ⟨z, its, n, r, r.length, e⟩
  · have e := h3.length
    exact ⟨by rw [e]; simpa using h2, its.toList, n, h3, e, by simpa using I.kIn l _ h1⟩
def rCatC (K : PySem.W.Frag) : R2 := fun x y H Q => ∃ l b xs zs, x = .ref l ∧ y = .ref b ∧ LC K H l xs ∧ LC K H b zs ∧ xs.length + zs.length ≤ sizeLine ∧ ∀ p, H p = none → Q (.ref p) (upd H p (.lst (xs ++ zs)))
theorem op_catC : OpR X (binaryOp .Add) (rCatC X.K) := by
  intro pins s σ H x y v u Q I rx ry h
  obtain ⟨l, b, xs, zs, rfl, rfl, hx, hy, hz, q⟩ := h
  obtain rfl : v = Value.ref l := rx
  obtain rfl : u = Value.ref b := ry
  obtain ⟨_, its, n, r, hl, e⟩ := hx.at_ I
  obtain ⟨_, its2, n2, r2, hl2, e2⟩ := hy.at_ I
  refine PySem.P.add_list e e2 ?_ (by rw [List.size_toArray, List.size_toArray, ← hl, ← hl2]; exact hz)
  rw [show its.toArray ++ its2.toArray = (its ++ its2).toArray by simp]
  exact ⟨.ref _, _, I.lnew (t' := s.toks) (r.append r2) (by rw [List.length_append]; exact hz), rfl, q _ I.fresh⟩
end
structure RoomG (k : Nat) (A : Around) : Prop where
  r : Room k A
  g : A.guards = some []
section
variable {A : Around} {j k : Nat}
theorem RoomG.mono (h : RoomG k A) (l : j ≤ k) : RoomG j A := ⟨h.r.mono l, h.g⟩
theorem RoomG.units (h : RoomG k A) : A.units + 64 < cLine := h.r.units
theorem RoomG.units0 (h : RoomG k A) : A.units < cLine := h.r.units0
theorem RoomG.deeper (h : RoomG (k + 1) A) (env : Env) : RoomG k (A.deeper env) := ⟨h.r.deeper env, h.g⟩
theorem RoomG.make (h : RoomG (k + 1) A) (C : Addr) (us : List Value) : RoomG k (A.under (.builtin "type.__call__" ⟨.ref C :: us, []⟩)) := ⟨h.r.make C us [], by
  have e : (Code.builtin "type.__call__" ⟨.ref C :: us, []⟩).guards = [] := by simp [Code.guards, Code.isGuard, guardIds]
  show pushGuards (Code.builtin "type.__call__" ⟨.ref C :: us, []⟩).guards A.guards = some []
  rw [e, h.g]; rfl⟩
end
structure FnG (P : Program) (w : World) (K : PySem.W.Frag) (mg : Str → Option Value) (base : Heap) (CX : CXT) (k : Nat) (f : Addr) (fd : FuncData) (ps : List Str) (sp : Sp) : Prop where
  len : ∀ vs H Q E, sp vs H Q E → vs.length = ps.length
  go : ∀ (A : Around) (outer : List Env) (s : Shared) (H : Hp) (args : Args) (us : List Value) (vs : List V) (Q : VK) (E : XK), RoomG k A → Env0 P w K mg base A outer s H → BindsTo s fd args (ps.zip us) → Vals vs us → sp vs H Q E →
    codeAny (model P w) A (.call (.ref f) args) (CR CX outer P w H s Q E) s
section
variable {P : Program} {w : World} {K : PySem.W.Frag} {mg : Str → Option Value} {base : Heap} {CX : CXT}
theorem FnG.of {k : Nat} {f : Addr} {fd : FuncData} {ps : List Str} {sp : Sp} (F : FnOk P w K mg base CX k f fd ps sp) : FnG P w K mg base CX k f fd ps sp := ⟨F.len, fun A outer s H args us vs Q E hr => F.run A outer s H args us vs Q E hr.r⟩
/-- a def by its body -/
theorem fnG_of {k : Nat} {f : Addr} {nm qual : Str} {prm : Arguments} {bd : List Stmt} {scp : Scope} {dV kV doc pm cdv ct oc : Value} {an od : Option Addr} {osl : Array (Option Value)} {N ps : List Str} {sp : Sp}
    (look : K.lookup f = some ⟨oc, od, .func (PySem.W.fnOf nm qual prm bd scp dV kV doc pm an cdv ct), osl⟩) (cod : PySem.W.codeIn K cdv qual = true) (Sc : FnScope N ps scp) (len : ∀ vs H Q E, sp vs H Q E → vs.length = ps.length)
    (bod : ∀ (A : Around) (outer : List Env) (s : Shared) (H : Hp) (vs : List V) (Q : VK) (E : XK), RoomG k (A.deeper (envOfC qual scp s.heap.objs.size f cdv)) → sp vs H Q E →
      ∃ t, PSs (cxOf CX P w K mg base N qual scp f cdv A outer s H E) bd t ∧ t { nx := fun _ H' => Q .non H', rt := Q } (start N vs) H) : FnG P w K mg base CX (k + 1) f (PySem.W.fnOf nm qual prm bd scp dV kV doc pm an cdv ct) ps sp := by
  constructor
  · exact len
  intro A outer s H args us vs Q E room env0 bind rel want
  have KX : K.In s.heap := env0.mod.kin.keeps fun b o e => (env0.bs b o e).1
  have kinds : ∀ y ∈ ps.zip us, scp.names.lookup y.1 = some .local ∨ (scp.names.lookup y.1 = some .cell ∧ ((cellsFrom (s.heap.objs.size + 1) scp.names []).lookup y.1).isSome = true) := by
    rintro ⟨n, v⟩ hy
    rcases Sc.par n (List.of_mem_zip hy).1 with q | q
    · exact .inl q
    · exact .inr ⟨q, PySem.W.cellsFrom_some _ _ _ (.inl q)⟩
  refine codeAny_call_function room.r.depth (KX _ _ look) rfl Sc.co Sc.gen rfl (PySem.W.codeRec_of KX cod) (bind _ _ _ _ (wpAny_newFunctionEnv_cells Sc.kind kinds fun env he s1 x => ?_))
  subst he
  refine ⟨(env0.mod.nolimit.keeps fun b o e => (env0.bs b o e).1).keeps x.toInCall.keep, codeAny_func ?_⟩
  obtain ⟨t, ht, hq⟩ := bod A outer s H vs Q E (room.deeper _) want
  refine wpAny_mono (ht.run [] s1 (start N vs) H _ (inv_start Sc room.r.hd env0 (len _ _ _ _ want) rel x) hq) (fun fl s' ends => ?_) fun e s' ends => ends
  cases fl with
  | brk => obtain ⟨_, _, _, q⟩ := ends; exact q.elim
  | cont => obtain ⟨_, _, _, q⟩ := ends; exact q.elim
  | next => obtain ⟨σ', H', J, q⟩ := ends; exact ⟨.non, H', J.os, J.bare, J.base, J.hok, rfl, q⟩
  | ret u => obtain ⟨v, σ', H', J, rv, q⟩ := ends; exact ⟨v, H', J.os, J.bare, J.base, J.hok, rv, q⟩
theorem funG {x qual : Str} {st : Stmt} {f : Addr} {fd : FuncData} {N ps : List Str} {k : Nat} {sp : Sp} (F : Fun K x qual st f fd) (Sc : FnScope N ps (defScope st)) (len : ∀ vs H Q E, sp vs H Q E → vs.length = ps.length)
    (bod : ∀ (cdv : Value) (A : Around) (outer : List Env) (s : Shared) (H : Hp) (vs : List V) (Q : VK) (E : XK), RoomG k (A.deeper (envOfC qual (defScope st) s.heap.objs.size f cdv)) → sp vs H Q E →
      ∃ t, PSs (cxOf (L2.CX P w) P w K mg base N qual (defScope st) f cdv A outer s H E) (defBody st) t ∧ t { nx := fun _ H' => Q .non H', rt := Q } (start N vs) H) : FnG P w K mg base (L2.CX P w) (k + 1) f fd ps sp := by
  obtain ⟨oc, od, kV, doc, pm, an, cdv, ct, osl, rfl, lk, hcd⟩ := F.ex
  exact fnG_of lk hcd Sc len (bod cdv)
end
section
variable {X : Cx} {CX : CXT} {k : Nat} {f C : Addr} {fd : FuncData} {ps : List Str} {sp : Sp} {E : L2.St → XK} {x m : Str} {p pos apos : Pos} {e o : Expr} {es : List Expr} {ta : TE} {t : TA}
theorem run_G {pins : List (Addr × Obj)} {σ : L2.St} {H : Hp} {s : Shared} {Q : VK} {us : List Value} {vs : List V} (F : FnG X.prog X.w X.K X.mg X.base CX k f fd ps sp) (hr : RoomG k X.A) (hb : Binds X.K fd ps []) (hx : PassesAt CX X σ (E σ)) (I : Inv X pins σ H s) (r : Vals vs us)
    (h : sp vs H Q (E σ)) : wpAny (model X.prog X.w) X.A (call (.ref f) us) (EP X pins σ Q) X.xe s := by
  have b := hb s us I.kIn (by rw [List.append_nil, ← r.length]; exact F.len _ _ _ _ h)
  rw [List.append_nil] at b
  refine wpAny_call (codeAny_mono (F.go X.A X.stack s H ⟨us, []⟩ us vs Q (E σ) hr I.env0 b r h) fun res s' hq => ?_)
  match res, hq with
  | .error e, hq => exact hx pins H s e s' I hq
  | .ok (.ret u), hq => exact I.after hq
  | .ok .next, hq => exact False.elim hq
  | .ok .brk, hq => exact False.elim hq
  | .ok .cont, hq => exact False.elim hq
theorem pe_callG (F : FnG X.prog X.w X.K X.mg X.base CX k f fd ps sp) (hr : RoomG k X.A) (hg : Gl X x) (hm : X.mg x = some (.ref f)) (hk : PySem.W.keepIn X.K (.ref f) = true) (hb : Binds X.K fd ps []) (hx : ∀ σ, PassesAt CX X σ (E σ)) (ha : PA X (e :: es) t)
    (hdb : (x == ("__debug__" : Str)) = false := by decide) (he : starEach (e :: es) X.env = (false, eval e X.env) :: starEach es X.env := by rfl) (hpl : (backTo pos (starEach es X.env)).any (·.1) = false := by rfl) : PE X (.Call (.Name x p) (e :: es) [] pos) (tCallS sp E t) := by
  constructor
  intro pins s σ H Q I h
  refine wpAny_Call_Name_kw (ld_glob I hg hm ?_ hdb)
  exact PySem.W.callWith_K (h₀ := X.base) I.ok.mod.kin hk (thn (ha.run pos pins s σ H _ I h) fun us s1 ⟨vs, H1, I1, r, q⟩ => ⟨I1.kIn, run_G F hr hb (hx σ) I1 r q⟩) he hpl
/-- o.m(..), by one of several classes; an instance that is frozen, too -/
def InsAt (H : Hp) (a C dx : Addr) (fs : List (Str × V)) : Prop := H a = some (.ins C dx fs) ∨ ∃ ob, H a = some (.frz ob (.ins C dx fs))
theorem insAt_get {P : Program} {w : World} {H : Hp} {h : Heap} {a dx : Addr} {fs : List (Str × V)} (hok : HOk P w H h) (e : InsAt H a C dx fs) : ∃ mA, ObjM h a dx C mA ∧ (∀ f, RelO (fs.lookup f) (mA f)) ∧ PySem.Within mA (fs.map (·.1)) := by
  have z : ObjOk P w H h a (.ins C dx fs) := by
    rcases e with e | ⟨ob, e⟩
    · exact hok a _ e
    · exact (show ObjOk P w H h a (.frz ob (.ins C dx fs)) from hok a _ e).2
  obtain ⟨d, z, ne, ob, mA, n, r, q⟩ := z
  exact ⟨mA, ⟨ob, n, ne⟩, r, q⟩
structure MTab (X : Cx) (CX : CXT) (m : Str) (k : Nat) (E : L2.St → XK) (C f : Addr) (sp : Sp) : Prop where
  c : Cls X.K C
  hm : Meth X.K C m f
  go : ∃ (k' : Nat) (fd : FuncData) (ps : List Str), k' ≤ k ∧ FnG X.prog X.w X.K X.mg X.base CX k' f fd ps sp ∧ Binds X.K fd ps []
/-- e.f of an instance, frozen or not -/
def tFldG (K : PySem.W.Frag) (cs : List Addr) (ta : TE) (f : Str) : TE := fun σ H Q => ta σ H fun x H1 => ∃ a C dx fs v, x = .ref a ∧ InsAt H1 a C dx fs ∧ C ∈ cs ∧ fs.lookup f = some v ∧ Q v H1
theorem pe_fldG {cs : List Addr} {f : Str} (he : PE X e ta) (hc : ∀ C ∈ cs, Cls X.K C ∧ NoAttr X.K C f) (hb : attributeBase e f X.env (eval e X.env) = eval e X.env := by rfl) : PE X (.Attribute e f pos) (tFldG X.K cs ta f) := by
  constructor
  intro pins s σ H Q I h
  refine attr_of hb (thn (he.run pins s σ H _ I h) fun u s1 ⟨x, H1, I1, rx, a, C, dx, fs, v, ex, ea, hm, l, q⟩ => ?_)
  subst ex
  obtain rfl : u = Value.ref a := rx
  obtain ⟨c, n⟩ := hc C hm
  obtain ⟨mA, O, r, _⟩ := insAt_get I1.hok ea
  obtain ⟨u2, hu, ru⟩ := RelO.some_of (v := v) (o := mA f) (by rw [← l]; exact r f)
  exact get_map I1.kIn O (c.get f) c.hd n hu (handed_of ru) ⟨v, H1, I1.tok _, ru, q⟩
/-! C(..) -/
theorem run_mkG {pins : List (Addr × Obj)} {σ : L2.St} {H : Hp} {s : Shared} {Q : VK} {us : List Value} {vs : List V} (M : Mk X.K C f) (F : FnG X.prog X.w X.K X.mg X.base CX k f fd ps sp) (hr : RoomG (k + 1) X.A) (hb : Binds X.K fd ps []) (hx : PassesAt CX X σ (E σ)) (I : Inv X pins σ H s)
    (r : Vals vs us) (h : ∀ x dx, H x = none → H dx = none → dx ≠ x → sp (.ref x :: vs) (upd (upd H dx (.own x)) x (.ins C dx [])) (fun v H2 => v = .non ∧ Q (.ref x) H2) (E σ)) : wpAny (model X.prog X.w) X.A (call (.ref C) us) (EP X pins σ Q) X.xe s := by
  let n := s.heap.objs.size
  have want := h (n + 1) n (I.hok.fresh (Nat.le_succ _)) (I.hok.fresh (Nat.le_refl _)) (Nat.ne_of_lt (Nat.lt_succ_self _))
  have I2 := Inv.made (C := C) I
  have r2 : Vals (V.ref (n + 1) :: vs) (Value.ref (n + 1) :: us) := .cons rfl r
  have b := hb _ (Value.ref (n + 1) :: us) I2.kIn (by rw [List.append_nil, ← r2.length]; exact F.len _ _ _ _ want)
  rw [List.append_nil] at b
  refine wpAny_call (make_map (f := f) I.kIn M.makes M.init (beq_iff_eq.mp M.fn) (codeAny_mono (F.go _ X.stack _ _ ⟨Value.ref (n + 1) :: us, []⟩ _ _ _ (E σ) (hr.make C us) (I2.env0.make C us []) b r2 want) fun res s' hq => ?_))
  match res, hq with
  | .error e, hq => exact hx pins _ _ e s' I2 hq
  | .ok (.ret u), hq =>
    obtain ⟨v, H', I3, rv, ev, q3⟩ := I2.after hq
    subst ev
    exact ⟨rv, ⟨V.ref (n + 1), H', I3, rfl, q3⟩⟩
  | .ok .next, hq => exact False.elim hq
  | .ok .brk, hq => exact False.elim hq
  | .ok .cont, hq => exact False.elim hq
def tMakeG (C : Addr) (sp : Sp) (E : L2.St → XK) (t : TA) : TE := fun σ H Q => t σ H fun vs H1 => ∀ x dx, H1 x = none → H1 dx = none → dx ≠ x → sp (.ref x :: vs) (upd (upd H1 dx (.own x)) x (.ins C dx [])) (fun v H2 => v = .non ∧ Q (.ref x) H2) (E σ)
theorem pe_makeG (M : Mk X.K C f) (F : FnG X.prog X.w X.K X.mg X.base CX k f fd ps sp) (hr : RoomG (k + 1) X.A) (hg : Gl X x) (hm : X.mg x = some (.ref C)) (hb : Binds X.K fd ps []) (hx : ∀ σ, PassesAt CX X σ (E σ)) (ha : PA X (e :: es) t)
    (hdb : (x == ("__debug__" : Str)) = false := by decide) (he : starEach (e :: es) X.env = (false, eval e X.env) :: starEach es X.env := by rfl) (hpl : (backTo pos (starEach es X.env)).any (·.1) = false := by rfl) : PE X (.Call (.Name x p) (e :: es) [] pos) (tMakeG C sp E t) := by
  constructor
  intro pins s σ H Q I h
  refine wpAny_Call_Name_kw (ld_glob I hg hm ?_ hdb)
  exact PySem.W.callWith_K (h₀ := X.base) I.ok.mod.kin M.kp (thn (ha.run pos pins s σ H _ I h) fun us s1 ⟨vs, H1, I1, r, q⟩ => ⟨I1.kIn, run_mkG M F hr hb (hx σ) I1 r q⟩) he hpl
end
/-! ### a thing is frozen: it stays as it is from here on -/
def canFrz : HO → Bool
  | .lst _ | .dK _ | .ins _ _ _ => true
  | _ => false
section
variable {X : Cx} {pins : List (Addr × Obj)} {σ : L2.St} {H : Hp} {s : Shared} {a : Addr} {u : HO}
theorem Inv.freeze (I : Inv X pins σ H s) (e : H a = some u) (hu : canFrz u = true) : ∃ o, Inv X pins σ (upd H a (.frz o u)) s := by
  obtain ⟨o, ho⟩ := objOk_get (I.hok a u e)
  have ne : ∀ b z, H b = some z → canFrz z = false → b ≠ a := fun b z hb hz q => by
    subst q; rw [e] at hb; cases hb; rw [hu] at hz; cases hz
  have own : ∀ b c, H b = some (.own c) → upd H a (.frz o u) b = some (.own c) := fun b c hb => by rw [upd_ne (ne b _ hb rfl)]; exact hb
  have tup : ∀ b c, H b = some (.tup c) → upd H a (.frz o u) b = some (.tup c) := fun b c hb => by rw [upd_ne (ne b _ hb rfl)]; exact hb
  have off : ∀ b, H b = none → upd H a (.frz o u) b = none := fun b hb => by rw [upd_ne (fun q => by subst q; rw [e] at hb; cases hb)]; exact hb
  refine ⟨o, I.ok, I.os, I.bare, ⟨I.base.keep, I.base.slot, fun b ob q n hx => off b (I.base.free b ob q n hx), I.base.there, fun b xs q => tup b xs (I.base.tups b xs q), fun b ob z q => ?_, fun b ps q => ?_⟩, I.loc, I.cell, off _ I.free, fun x c hx => off _ (I.freeC x c hx), fun p hp => ?_, fun b z hz => ?_, I.len⟩
  · have h1 := I.base.frzs b ob z q
    rw [upd_ne (ne b _ h1 rfl)]; exact h1
  · obtain ⟨more, h1⟩ := I.base.tbls b ps q
    exact ⟨more, by rw [upd_ne (ne b _ h1 rfl)]; exact h1⟩
  · obtain ⟨h1, h2, h3⟩ := I.pin p hp
    exact ⟨h1, off _ h2, h3⟩
  · by_cases hb : b = a
    · subst hb
      rw [upd_same] at hz
      cases hz
      refine ⟨ho, (I.hok b u e).stay (fun _ _ _ h => h) (fun c hc => own c b hc) tup⟩
    · rw [upd_ne hb] at hz
      exact (I.hok b z hz).stay (fun _ _ _ h => h) (fun c hc => own c b hc) tup
/-- an expression whose value is frozen behind it -/
theorem pe_frz {x : Expr} {t : TE} (h : PE X x t) : PE X x (fun σ H Q => t σ H fun v H1 => Q v H1 ∨ ∃ a u, v = .ref a ∧ H1 a = some u ∧ canFrz u = true ∧ ∀ o, Q v (upd H1 a (.frz o u))) := by
  constructor
  intro pins s σ H Q I q
  refine thn (h.run pins s σ H _ I q) fun u s1 ⟨v, H1, I1, r, z⟩ => ?_
  rcases z with z | ⟨a, w, rfl, e, hu, z⟩
  · exact ⟨v, H1, I1, r, z⟩
  · obtain ⟨o, I2⟩ := Inv.freeze I1 e hu
    exact ⟨_, _, I2, r, z o⟩
end
/-! ### the end of a law -/
section
theorem lawG {P : Program} {w : World} {K : PySem.W.Frag} {mg mb : Str → Option Value} {CX : CXT} {k : Nat} {fa a : Addr} {fd : FuncData} {x : Str} {sp : Sp} {s : Shared} {vs : List Value} {ns : List Int} (KX : K.In s.heap) (hns : s.heap.Ns mainGlobals mg) (hb : s.heap.Ns builtinsNs mb)
    (hbb : ∀ x : Str, x ≠ "__name__" → mb x = bootBuiltins x) (hlim : s.heap.NoLimit) (hg : s.gens = #[]) (ha : s.heap.get? a = some { cls := .type "list", data := .seq vs.toArray }) (hi : IntsAre vs ns) (hl : ns.length ≤ sizeLine) (hr : RoomG k callerA)
    (F : ∀ base : Heap, K.In base → base.Ns mainGlobals mg → FnG P w K mg base CX k fa fd [x] sp) (hbind : ∀ (s : Shared) (u : Value), BindsTo s fd ⟨[u], []⟩ [(x, u)]) (hsp : ∀ H : Hp, CL K H a (ns.map V.int) → sp [.ref a] H (fun v _ => v = .bl true) fun _ _ _ => False)
    (hCX : ∀ H e s', CX [] H s (fun _ _ _ => False) e s' → False) : codeAny (model P w) callerA (.call (.ref fa) ⟨[.ref a], []⟩) (fun r s' => r = .ok (.ret (.bool true)) ∧ OldK s.heap s'.heap ∧ s'.os = s.os ∧ AllBare s'.gens) s := by
  have rv := vals_ints hi
  have go : ∀ H : Hp, Only H → CL K H a (ns.map V.int) → HOk P w H s.heap → (∀ b, H b ≠ none → b = a) → (H a ≠ none → K.lookup a = none) → codeAny (model P w) callerA (.call (.ref fa) ⟨[.ref a], []⟩) (fun r s' => r = .ok (.ret (.bool true)) ∧ OldK s.heap s'.heap ∧ s'.os = s.os ∧ AllBare s'.gens) s := by
    intro H hO hS hok hA hK
    have alone : ∀ {b : Addr} {u : HO}, H b = some u → b = a := fun {b u} q => hA b (by rw [q]; exact Option.some_ne_none u)
    have stays : ∀ {b : Addr} {o : Obj}, s.heap.get? b = some o → H b = none → (hidT s.heap H).get? b = some o := fun e n => hidT_get e n
    have dictOff : ∀ {b : Addr} {o : Obj} {es : Array DictEntry} {ep : Nat}, s.heap.get? b = some o → o.data = .dict es ep → H b = none := fun {b o es ep} e d => by
      cases q : H b with
      | none => rfl
      | some u =>
        obtain rfl := alone q
        rw [ha] at e
        cases e
        cases (show Data.seq vs.toArray _ = Data.dict es ep from d)
    have nsOf : ∀ {b : Addr} {m : Str → Option Value}, s.heap.Ns b m → (hidT s.heap H).Ns b m := fun {b m} ⟨o, es, ep, e, d, r⟩ => ⟨o, es, ep, stays e (dictOff e d), d, r⟩
    have hKb : K.In (hidT s.heap H) := fun b o e => by
      refine stays (KX b o e) ?_
      cases q : H b with
      | none => rfl
      | some u =>
        obtain rfl := alone q
        have n := hK (by rw [q]; exact Option.some_ne_none u)
        rw [n] at e
        cases e
    have hM : Mod K mg (hidT s.heap H) := ⟨hKb, nsOf hns, ⟨mb, nsOf hb, hbb⟩, let ⟨mc, h1, h2⟩ := hlim; ⟨mc, nsOf h1, h2⟩⟩
    have e0 : Env0 P w K mg (hidT s.heap H) callerA [] s H := ⟨rfl, hM, fun b o e => of_hidT e, Nat.le_of_eq (hidT_size _ _), trivial, fun b hb => absurd hb (by intro z; cases z), hok, .of_eq hg⟩
    refine codeAny_mono ((F _ hKb (nsOf hns)).go callerA [] s H ⟨[.ref a], []⟩ [.ref a] [.ref a] _ _ hr e0 (hbind s (.ref a)) (.cons rfl .nil) (hsp H hS)) fun r s' h => ?_
    match r, h with
    | .error e, h => exact (hCX H e s' h).elim
    | .ok .next, h => exact False.elim h
    | .ok .brk, h => exact False.elim h
    | .ok .cont, h => exact False.elim h
    | .ok (.ret u), h =>
      obtain ⟨v, H', os, bare, un, hok', r', q⟩ := h
      obtain rfl : v = .bl true := q
      obtain rfl : u = Value.bool true := r'
      refine ⟨rfl, OldK.of_keep fun b o e => ?_, os, bare⟩
      rcases hO b with z | ⟨ob, xs, z⟩
      · exact un.keep b o e z (fun z => by cases z) (fun z => by cases z)
      · have e1 := (hok b _ z).1
        have e2 := (hok' b _ (un.frzs b ob _ z)).1
        rw [e] at e1
        cases e1
        exact e2
  cases hk : K.lookup a with
  | some o =>
    have e := KX a o hk
    rw [ha] at e
    cases e
    exact go (fun _ => none) (fun _ => .inl rfl) (.inr ⟨vs.toArray, _, hk, by rw [List.size_toArray, hi.length]; exact hl, by simpa using rv⟩) (fun b u z => by cases z) (fun b z => absurd rfl z) fun z => absurd rfl z
  | none =>
    let ob : Obj := { cls := .type "list", data := .seq vs.toArray }
    let H : Hp := fun b => if b = a then some (.frz ob (.lst (ns.map V.int))) else none
    have hsame : H a = some (.frz ob (.lst (ns.map V.int))) := if_pos rfl
    have hoff : ∀ b, b ≠ a → H b = none := fun b q => if_neg q
    refine go H (fun b => ?_) (.inl ⟨ob, hsame⟩) (fun b u z => ?_) (fun b z => ?_) fun _ => hk
    · by_cases q : b = a
      · exact .inr ⟨ob, _, by rw [q]; exact hsame⟩
      · exact .inl (hoff b q)
    · by_cases q : b = a
      · subst q
        rw [hsame] at z
        cases z
        exact ⟨ha, by rw [List.length_map]; exact hl, vs, _, rv, ha⟩
      · rw [hoff b q] at z
        cases z
    · by_cases q : b = a
      · exact q
      · exact absurd (hoff b q) z
theorem walkG {l : PySem.W.OpenLaw} {n k : Nat} {q : Program} {loose : List Str} {XP : (Str → Option Value) → Heap → Prop} {YP : World → Heap → Prop} {d : DefRec} {K : Params → PySem.W.Frag} {CX : World → CXT} {sp : World → Sp} {x : Str} (hn : l.most = some n) (hn2 : n ≤ sizeLine)
    (hdf : d.params.defaults = []) (hr : RoomG k callerA) (hY : ∀ (w : World) (h : Heap), YP w h → (K w.params).In h)
    (F : ∀ (w : World) (mg : Str → Option Value) (fa : Addr) (h : Heap), (K w.params).In h → h.Ns mainGlobals mg → mg d.name = some (.ref fa) → ∃ fd : FuncData, (∀ (s : Shared) (u : Value), BindsTo s fd ⟨[u], []⟩ [(x, u)]) ∧
        ∀ base : Heap, (K w.params).In base → base.Ns mainGlobals mg → FnG l.prog w (K w.params) mg base (CX w) k fa fd [x] (sp w))
    (hsp : ∀ (w : World) (H : Hp) (a : Addr) (ns : List Int), ns.length ≤ n → CL (K w.params) H a (ns.map V.int) → sp w [.ref a] H (fun v _ => v = .bl true) fun _ _ _ => False)
    (hCX : ∀ (w : World) (H : Hp) (s : Shared) (e : Value) (s' : Shared), CX w [] H s (fun _ _ _ => False) e s' → False) : PySem.W.WalkO q loose XP YP l.row.toRowW d [] (fun f vs => PySem.call f vs) := by
  refine Att.attach_call hn hdf fun w s₀ s₁ mg mb fa o pm cd doc a vs ns G Y ho hd hcd hmg hobj hints hlen hg => ?_
  obtain ⟨fd, hb, hF⟩ := F w mg fa _ (hY w _ Y) G.T.g hmg
  exact lawG (hY w _ Y) G.T.g G.T.b G.T.builtins G.T.nolimit hg hobj hints (Nat.le_trans hlen hn2) hr hF hb (fun H hS => hsp w H a ns hlen hS) fun H e s' => hCX w H s₁ e s'
end
/-! ### range of any size -/
section
theorem turn_long {P : Program} {w : World} {K : PySem.W.Frag} {tg : Expr} (it : Addr) (lo : Int) (n : Nat) : Turn P w K tg (Itr lo n) [it] it (fun i h => IsLongIter h it (lo + (i : Nat) * 1) ((n : Int) - (i : Nat)) 1) := by
  have one : ∀ b ∈ [it], b = it := fun b hb => by simpa using hb
  refine ⟨by simp, fun i h st b hb => ?_, fun i h h' st k => k it (by simp) _ st, ?_, ?_, fun _ _ _ _ _ st h => wpAny_pyIter_longiter st h⟩
  · obtain rfl := one b hb
    refine ⟨_, st, fun v z => ?_⟩
    cases (show Data.fields _ = Data.cell v from z)
  · intro X hP hw hK hc i pins s σ H E I hf st hg
    subst hP hw hK
    obtain ⟨f0, f1, f2, f3, f4, f5⟩ := hf it (by simp)
    have hg' : i < n := hg
    refine wpAny_pyNext_long_item st (by omega) fun h' st' sb => ?_
    have I1 : Inv X pins σ H { s with heap := h', toks := s.toks + 1 } := I.turned (fun b o hb e => (sb.2 b hb).trans e) f0 f1 f3 f4 f5
    have e1 : lo + (i : Nat) * 1 + 1 = lo + ((i + 1 : Nat) : Int) * 1 := by omega
    have e2 : (n : Int) - (i : Nat) - 1 = (n : Int) - ((i + 1 : Nat) : Int) := by omega
    rw [e1, e2] at st'
    refine ⟨_, rfl, go_of (s := { s with heap := h', toks := s.toks + 1 }) (n := "longrange_iterator") st' rfl rfl (by decide) ⟨.int (lo + i), H, I1, ⟨s.toks, ?_⟩, ⟨rfl, rfl⟩, st', fun b hb => (hf b hb).1⟩⟩
    rw [Int.mul_one]
  · intro X hP hw hK hc i pins s σ H E I hf st hg
    subst hP hw hK
    obtain ⟨f0, f1, f2, f3, f4, f5⟩ := hf it (by simp)
    exact wpAny_pyNext_long_end (I.ok.hd hc) st (by have : n ≤ i := hg; omega) fun h' eb => ⟨rfl, I.turned (t' := s.toks) (fun b o hb e => eb b o hb e) f0 f1 f3 f4 f5⟩
variable {X : Cx} {tg : Expr}
theorem range_itA {pins : List (Addr × Obj)} {σ : L2.St} {H : Hp} {s : Shared} {R : It → Hp → Prop} {E : Value → Shared → Prop} {lo hi : Int} {t u v : Tok} {tk : Nat} (I : Inv X pins σ H s) (q : R (Itr lo (hi - lo).toNat) H) :
    wpAny (model X.prog X.w) X.A (pyIter (.ref s.heap.objs.size)) (PIE X pins σ tg R) E { s with heap := s.heap.push { cls := .type "range", data := .fields #[.int lo t, .int hi u, .int 1 v] }, toks := tk } := by
  let g := s.heap.push { cls := .type "range", data := .fields #[.int lo t, .int hi u, .int 1 v] }
  have I1 : Inv X pins σ H { s with heap := g, toks := tk } := I.kept fun b o e => Heap.get?_push_of_some _ e
  have e1 : lo + ((0 : Nat) : Int) * 1 = lo := by simp
  have e2 : (((hi - lo).toNat : Nat) : Int) - ((0 : Nat) : Int) = Builtin.Range.rangeSize lo hi 1 := by rw [rangeSize_one]; split <;> omega
  have fresh : ∀ b ∈ [g.objs.size], FpOk X pins H b := fun b hb => by
    obtain rfl : b = g.objs.size := by simpa using hb
    exact I1.fpOk (Nat.le_refl _) (I1.hok.fresh (Nat.le_refl _))
  cases hs : Builtin.Range.small lo hi 1 with
  | true =>
    refine wpAny_pyIter_range (IsRange.new ..) hs ⟨g.objs.size, [g.objs.size], _, _, H, rfl, I1.kept (t' := tk) fun b o e => Heap.get?_push_of_some _ e, turn_range _ lo (hi - lo).toNat, ?_, fresh, q⟩
    show IsRangeIter _ _ (lo + ((0 : Nat) : Int) * 1) ((((hi - lo).toNat : Nat) : Int) - ((0 : Nat) : Int)) 1
    rw [e1, e2]
    exact Heap.get?_push_size _ rfl
  | false =>
    refine wpAny_pyIter_longrange (IsRange.new ..) hs ⟨g.objs.size, [g.objs.size], _, _, H, rfl, I1.kept (t' := tk) fun b o e => Heap.get?_push_of_some _ e, turn_long _ lo (hi - lo).toNat, ?_, fresh, q⟩
    show IsLongIter _ _ (lo + ((0 : Nat) : Int) * 1) ((((hi - lo).toNat : Nat) : Int) - ((0 : Nat) : Int)) 1
    rw [e1, e2]
    exact Heap.get?_push_size _ rfl
def iRngA1 (ta : TA) : TI := fun σ H R => ta σ H fun vs H1 => ∃ j : Int, vs = [.int j] ∧ R (Itr 0 j.toNat) H1
theorem pi_rangeA1 {a : Expr} {ta : TA} {p pos : Pos} (hg : Gl X "range") (hm : X.mg "range" = none) (ha : PA X [a] ta) (hs : starEach [a] X.env = [(false, eval a X.env)] := by rfl) : PI X tg (.Call (.Name "range" p) [a] [] pos) (iRngA1 ta) := by
  constructor
  intro pins s σ H R I h
  refine Call_ (ld_blt I hg hm boot_range (PyProof.Rows.callWith_type1 (thn (ha.run pos pins s σ H _ I h) fun us s1 ⟨vs, H1, I1, r1, j, e, q⟩ => ?_) hs rfl))
  subst e
  cases r1 with
  | cons r rr =>
    cases rr
    obtain ⟨t, rfl⟩ := r
    exact call_range_1 (range_itA I1 (by simpa using q))
end
end VD

/-! data by value: tuples are plain data, lists and instances stand in a store -/
namespace VD
open PySem PySem.Spec PyProof.Rows L2

inductive Dv where
  | non | bl (b : Bool) | int (i : Int) | str (x : Str) | ty (n : String) | ref (a : Addr) | tup (ds : List Dv) | rol (ds : List Dv)
  /-- a dict by value, an instance by value -/
  | rod (ks : List Key) (ds : List Dv) | obj (C : Addr) (ns : List Str) (ds : List Dv)
instance : Inhabited Dv := ⟨.non⟩

/-- what stands at a stored address -/
inductive MO where
  | lst (ds : List Dv) | dK (kvs : List (Key × Dv)) | ins (C dx : Addr) (fs : List (Str × Dv)) | xd (fs : List (Str × Dv))
abbrev Sto := Addr → Option MO
abbrev Rho := List (Option Dv)
def put (S : Sto) (a : Addr) (m : MO) : Sto := fun b => if b = a then some m else S b
theorem put_same {S : Sto} {a : Addr} {m : MO} : put S a m a = some m := by unfold put; rw [if_pos rfl]
theorem put_ne {S : Sto} {a b : Addr} {m : MO} (h : b ≠ a) : put S a m b = S b := by unfold put; rw [if_neg h]
theorem put_put {S : Sto} {a : Addr} {m n : MO} : put (put S a m) a n = put S a n := by
  funext b; unfold put; split <;> rfl
theorem put_comm {S : Sto} {a b : Addr} {m n : MO} (h : a ≠ b) : put (put S a m) b n = put (put S b n) a m := by
  funext c; unfold put; by_cases h1 : c = b <;> by_cases h2 : c = a <;> simp [h1, h2] <;> simp_all
theorem put_self {S : Sto} {a : Addr} {m : MO} (h : S a = some m) : put S a m = S := by
  funext b; unfold put; split
  · rename_i e; rw [e, h]
  · rfl
theorem ne_of {S : Sto} {a b : Addr} {m : MO} (h : S a = some m) (h' : S b = none) : a ≠ b := by
  intro e; rw [e, h'] at h; cases h
/-- less is known -/
def Sub (S T : Sto) : Prop := ∀ a m, S a = some m → T a = some m
theorem Sub.refl (S : Sto) : Sub S S := fun _ _ h => h
theorem Sub.trans {S T U : Sto} (h : Sub S T) (g : Sub T U) : Sub S U := fun a m e => g a m (h a m e)
theorem Sub.new {S : Sto} {a : Addr} {m : MO} (h : S a = none) : Sub S (put S a m) := fun b n e => by
  rw [put_ne (ne_of e h)]; exact e
theorem Sub.put {S T : Sto} {a : Addr} {m : MO} (h : Sub S T) : Sub (put S a m) (put T a m) := fun b n e => by
  unfold VD.put at e ⊢
  split
  · rename_i q; rw [if_pos q] at e; exact e
  · rename_i q; rw [if_neg q] at e; exact h _ _ e

/-- a store without the object at p -/
def rm (S : Sto) (p : Addr) : Sto := fun b => if b = p then none else S b
theorem rm_same {S : Sto} {p : Addr} : rm S p p = none := if_pos rfl
theorem rm_ne {S : Sto} {p b : Addr} (h : b ≠ p) : rm S p b = S b := if_neg h
theorem rm_put {S : Sto} {p : Addr} {m : MO} (h : S p = none) : rm (put S p m) p = S := by
  funext b
  unfold rm put
  split
  · rename_i e; rw [e, h]
  · rfl
section
variable (K : PySem.W.Frag) (H : Hp)
mutual
inductive Rep : V → Dv → Prop
  | non : Rep .non .non
  | bl (b : Bool) : Rep (.bl b) (.bl b)
  | int (i : Int) : Rep (.int i) (.int i)
  | str (x : Str) : Rep (.str x) (.str x)
  | ty (n : String) : Rep (.ty n) (.ty n)
  | ref (a : Addr) : Rep (.ref a) (.ref a)
  | tup {a : Addr} {xs : List V} {ds : List Dv} : SqT K H a xs → RepL xs ds → Rep (.ref a) (.tup ds)
  | rol {a : Addr} {xs : List V} {ds : List Dv} : CL K H a xs → RepL xs ds → Rep (.ref a) (.rol ds)
  | rod {a : Addr} {o : Obj} {ks : List Key} {vs : List V} {ds : List Dv} : H a = some (.frz o (.dK (ks.zip vs))) → ks.length = vs.length → RepL vs ds → Rep (.ref a) (.rod ks ds)
  | obj {a C dx : Addr} {o : Obj} {ns : List Str} {vs : List V} {ds : List Dv} : H a = some (.frz o (.ins C dx (ns.zip vs))) → ns.length = vs.length → RepL vs ds → Rep (.ref a) (.obj C ns ds)
inductive RepL : List V → List Dv → Prop
  | nil : RepL [] []
  | cons {v : V} {vs : List V} {d : Dv} {ds : List Dv} : Rep v d → RepL vs ds → RepL (v :: vs) (d :: ds)
end
end
section
variable {K : PySem.W.Frag} {H H' H1 H2 : Hp}
/-- tuples stay -/
structure Tk (K : PySem.W.Frag) (H H' : Hp) : Prop where
  t : ∀ a xs, SqT K H a xs → SqT K H' a xs
  c : ∀ a xs, CL K H a xs → CL K H' a xs
  f : ∀ a o u, H a = some (.frz o u) → H' a = some (.frz o u)
theorem Tk.refl (H : Hp) : Tk K H H := ⟨fun _ _ h => h, fun _ _ h => h, fun _ _ _ h => h⟩
theorem Tk.trans (h : Tk K H H1) (g : Tk K H1 H2) : Tk K H H2 := ⟨fun a xs e => g.t a xs (h.t a xs e), fun a xs e => g.c a xs (h.c a xs e), fun a o u e => g.f a o u (h.f a o u e)⟩
theorem Tk.of (h : ∀ a o, H a = some o → (∀ xs, o ≠ .tup xs) ∧ (∀ ob u, o ≠ .frz ob u) ∨ H' a = some o) : Tk K H H' := ⟨fun a xs e => by
  rcases e with (e | ⟨o, e⟩) | e
  · rcases h _ _ e with ⟨q, _⟩ | q
    · exact absurd rfl (q xs)
    · exact .inl (.inl q)
  · rcases h _ _ e with ⟨_, q⟩ | q
    · exact absurd rfl (q _ _)
    · exact .inl (.inr ⟨o, q⟩)
  · exact .inr e, fun a xs e => by
  rcases e with ⟨o, e⟩ | e
  · rcases h _ _ e with ⟨_, q⟩ | q
    · exact absurd rfl (q _ _)
    · exact .inl ⟨o, q⟩
  · exact .inr e, fun a ob u e => by
  rcases h _ _ e with ⟨_, q⟩ | q
  · exact absurd rfl (q _ _)
  · exact q⟩
theorem Tk.new {p : Addr} {o : HO} (h : H p = none) : Tk K H (upd H p o) := Tk.of fun a u e => .inr (by rw [upd_ne (ne_of_none e h)]; exact e)
theorem Tk.same (h : Same H H') : Tk K H H' := Tk.of fun a u e => .inr (h a u e)
theorem Tk.write {p : Addr} {o u : HO} (h : H p = some u) (q : (∀ xs, u ≠ .tup xs) ∧ (∀ ob z, u ≠ .frz ob z)) : Tk K H (upd H p o) := Tk.of fun a x e => by
  by_cases z : a = p
  · subst z; rw [h] at e; cases e; exact .inl q
  · exact .inr (by rw [upd_ne z]; exact e)
mutual
theorem Rep.mono (t : Tk K H H') : ∀ {v : V} {d : Dv}, Rep K H v d → Rep K H' v d
  | _, _, .non => .non
  | _, _, .bl b => .bl b
  | _, _, .int b => .int b
  | _, _, .str b => .str b
  | _, _, .ty b => .ty b
  | _, _, .ref b => .ref b
  | _, _, .tup h l => .tup (t.t _ _ h) (RepL.mono t l)
  | _, _, .rol h l => .rol (t.c _ _ h) (RepL.mono t l)
  | _, _, .rod h e l => .rod (t.f _ _ _ h) e (RepL.mono t l)
  | _, _, .obj h e l => .obj (t.f _ _ _ h) e (RepL.mono t l)
theorem RepL.mono (t : Tk K H H') : ∀ {vs : List V} {ds : List Dv}, RepL K H vs ds → RepL K H' vs ds
  | _, _, .nil => .nil
  | _, _, .cons h l => .cons (Rep.mono t h) (RepL.mono t l)
end
theorem RepL.length : ∀ {vs : List V} {ds : List Dv}, RepL K H vs ds → vs.length = ds.length
  | _, _, .nil => rfl
  | _, _, .cons _ l => congrArg (· + 1) (RepL.length l)
theorem RepL.get : ∀ {vs : List V} {ds : List Dv} {i : Nat} {d : Dv}, RepL K H vs ds → ds[i]? = some d → ∃ v, vs[i]? = some v ∧ Rep K H v d
  | _, _, _, _, .nil, e => by simp at e
  | _, _, 0, _, .cons h _, e => by simp at e; subst e; exact ⟨_, rfl, h⟩
  | _, _, i + 1, d, .cons _ l, e => by
    obtain ⟨v, h1, h2⟩ := RepL.get (i := i) (d := d) l (by simpa using e)
    exact ⟨v, by simpa using h1, h2⟩
theorem RepL.append : ∀ {vs : List V} {ds : List Dv} {us : List V} {es : List Dv}, RepL K H vs ds → RepL K H us es → RepL K H (vs ++ us) (ds ++ es)
  | _, _, _, _, .nil, q => q
  | _, _, _, _, .cons h l, q => .cons h (RepL.append l q)
theorem RepL.take : ∀ {vs : List V} {ds : List Dv} (n : Nat), RepL K H vs ds → RepL K H (vs.take n) (ds.take n)
  | _, _, 0, _ => .nil
  | _, _, _ + 1, .nil => .nil
  | _, _, n + 1, .cons h l => .cons h (RepL.take n l)
theorem RepL.drop : ∀ {vs : List V} {ds : List Dv} (n : Nat), RepL K H vs ds → RepL K H (vs.drop n) (ds.drop n)
  | _, _, 0, q => q
  | _, _, _ + 1, .nil => .nil
  | _, _, n + 1, .cons _ l => RepL.drop n l
theorem RepL.set : ∀ {vs : List V} {ds : List Dv} {v : V} {d : Dv} (n : Nat), RepL K H vs ds → Rep K H v d → RepL K H (vs.set n v) (ds.set n d)
  | _, _, _, _, _, .nil, _ => .nil
  | _, _, _, _, 0, .cons _ l, q => .cons q l
  | _, _, _, _, n + 1, .cons h l, q => .cons h (RepL.set n l q)
theorem RepL.rep {vs : List V} {ds : List Dv} (h : RepL K H vs ds) : ∀ k : Nat, RepL K H (List.replicate k vs).flatten (List.replicate k ds).flatten
  | 0 => .nil
  | k + 1 => by
    rw [List.replicate_succ, List.replicate_succ, List.flatten_cons, List.flatten_cons]
    exact h.append (RepL.rep h k)
theorem RepL.nil_iff {vs : List V} {ds : List Dv} (h : RepL K H vs ds) : vs = [] ↔ ds = [] := by
  cases h <;> simp
/-! inversions -/
theorem Rep.i_non {v : V} (h : Rep K H v .non) : v = .non := by cases h; rfl
theorem Rep.i_bl {v : V} {b : Bool} (h : Rep K H v (.bl b)) : v = .bl b := by cases h; rfl
theorem Rep.i_int {v : V} {b : Int} (h : Rep K H v (.int b)) : v = .int b := by cases h; rfl
theorem Rep.i_str {v : V} {b : Str} (h : Rep K H v (.str b)) : v = .str b := by cases h; rfl
theorem Rep.i_ty {v : V} {b : String} (h : Rep K H v (.ty b)) : v = .ty b := by cases h; rfl
theorem Rep.i_ref {v : V} {b : Addr} (h : Rep K H v (.ref b)) : v = .ref b := by cases h; rfl
theorem Rep.i_tup {v : V} {ds : List Dv} (h : Rep K H v (.tup ds)) : ∃ a xs, v = .ref a ∧ SqT K H a xs ∧ RepL K H xs ds := by
  cases h with | tup h l => exact ⟨_, _, rfl, h, l⟩
theorem Rep.i_rol {v : V} {ds : List Dv} (h : Rep K H v (.rol ds)) : ∃ a xs, v = .ref a ∧ CL K H a xs ∧ RepL K H xs ds := by
  cases h with | rol h l => exact ⟨_, _, rfl, h, l⟩
theorem Rep.i_rod {v : V} {ks : List Key} {ds : List Dv} (h : Rep K H v (.rod ks ds)) : ∃ a o vs, v = .ref a ∧ H a = some (.frz o (.dK (ks.zip vs))) ∧ ks.length = vs.length ∧ RepL K H vs ds := by
  cases h with | rod h e l => exact ⟨_, _, _, rfl, h, e, l⟩
theorem Rep.i_obj {v : V} {C : Addr} {ns : List Str} {ds : List Dv} (h : Rep K H v (.obj C ns ds)) : ∃ a dx o vs, v = .ref a ∧ H a = some (.frz o (.ins C dx (ns.zip vs))) ∧ ns.length = vs.length ∧ RepL K H vs ds := by
  cases h with | obj h e l => exact ⟨_, _, _, _, rfl, h, e, l⟩
theorem RepL.ints : ∀ {vs : List V} {ns : List Int}, RepL K H vs (ns.map Dv.int) → vs = ns.map V.int
  | _, [], .nil => rfl
  | _, _ :: _, .cons h l => by rw [h.i_int, RepL.ints l]; rfl
theorem RepL.bls : ∀ {vs : List V} {ns : List Bool}, RepL K H vs (ns.map Dv.bl) → vs = ns.map V.bl
  | _, [], .nil => rfl
  | _, _ :: _, .cons h l => by rw [h.i_bl, RepL.bls l]; rfl
theorem RepL.of_ints : ∀ (ns : List Int), RepL K H (ns.map V.int) (ns.map Dv.int)
  | [] => .nil
  | i :: r => .cons (.int i) (RepL.of_ints r)
theorem RepL.cons_i {vs : List V} {d : Dv} {ds : List Dv} (h : RepL K H vs (d :: ds)) : ∃ v r, vs = v :: r ∧ Rep K H v d ∧ RepL K H r ds := by
  cases h with | cons h l => exact ⟨_, _, rfl, h, l⟩
theorem RepL.nil_i {vs : List V} (h : RepL K H vs []) : vs = [] := by cases h; rfl

/-! the store -/
def RepF (K : PySem.W.Frag) (H : Hp) : List (Str × V) → List (Str × Dv) → Prop := Paired fun p q => p.1 = q.1 ∧ Rep K H p.2 q.2
def RepK (K : PySem.W.Frag) (H : Hp) : List (Key × V) → List (Key × Dv) → Prop := Paired fun p q => p.1 = q.1 ∧ Rep K H p.2 q.2
theorem RepF.mono (t : Tk K H H') {gs : List (Str × V)} {fs : List (Str × Dv)} (h : RepF K H gs fs) : RepF K H' gs fs := Paired.mapP h fun _ _ q => ⟨q.1, q.2.mono t⟩
theorem RepK.mono (t : Tk K H H') {gs : List (Key × V)} {fs : List (Key × Dv)} (h : RepK K H gs fs) : RepK K H' gs fs := Paired.mapP h fun _ _ q => ⟨q.1, q.2.mono t⟩
def RepO (K : PySem.W.Frag) (H : Hp) (a : Addr) : MO → Prop
  | .lst ds => ∃ xs, H a = some (.lst xs) ∧ RepL K H xs ds
  | .dK kvs => ∃ gs, H a = some (.dK gs) ∧ RepK K H gs kvs
  | .ins C dx fs => ∃ gs, H a = some (.ins C dx gs) ∧ RepF K H gs fs
  | .xd fs => ∃ gs, H a = some (.xd gs) ∧ RepF K H gs fs
theorem RepO.mono (t : Tk K H H') {a : Addr} {m : MO} (e : ∀ o, H a = some o → H' a = some o) (h : RepO K H a m) : RepO K H' a m := by
  cases m with
  | lst ds => obtain ⟨gs, h1, h2⟩ := h; exact ⟨gs, e _ h1, h2.mono t⟩
  | dK kvs => obtain ⟨gs, h1, h2⟩ := h; exact ⟨gs, e _ h1, h2.mono t⟩
  | ins C dx fs => obtain ⟨gs, h1, h2⟩ := h; exact ⟨gs, e _ h1, h2.mono t⟩
  | xd fs => obtain ⟨gs, h1, h2⟩ := h; exact ⟨gs, e _ h1, h2.mono t⟩
theorem RepO.mlst {a : Addr} {xs : List V} {ds : List Dv} (h : H a = some (.lst xs)) (r : RepL K H xs ds) : RepO K H a (.lst ds) := ⟨xs, h, r⟩
theorem RepO.mdK {a : Addr} {gs : List (Key × V)} {kvs : List (Key × Dv)} (h : H a = some (.dK gs)) (r : RepK K H gs kvs) : RepO K H a (.dK kvs) := ⟨gs, h, r⟩
theorem RepO.mins {a C dx : Addr} {gs : List (Str × V)} {fs : List (Str × Dv)} (h : H a = some (.ins C dx gs)) (r : RepF K H gs fs) : RepO K H a (.ins C dx fs) := ⟨gs, h, r⟩
theorem RepO.mxd {a : Addr} {gs : List (Str × V)} {fs : List (Str × Dv)} (h : H a = some (.xd gs)) (r : RepF K H gs fs) : RepO K H a (.xd fs) := ⟨gs, h, r⟩
theorem wr_lst {ys : List V} : (∀ xs, HO.lst ys ≠ .tup xs) ∧ (∀ ob z, HO.lst ys ≠ .frz ob z) := by constructor <;> intros <;> intro h <;> cases h
theorem wr_dK {ys : List (Key × V)} : (∀ xs, HO.dK ys ≠ .tup xs) ∧ (∀ ob z, HO.dK ys ≠ .frz ob z) := by constructor <;> intros <;> intro h <;> cases h
theorem wr_ins {C dx : Addr} {ys : List (Str × V)} : (∀ xs, HO.ins C dx ys ≠ .tup xs) ∧ (∀ ob z, HO.ins C dx ys ≠ .frz ob z) := by constructor <;> intros <;> intro h <;> cases h
theorem RepO.there {a : Addr} {m : MO} (h : RepO K H a m) : ∃ o, H a = some o := by
  cases m with
  | lst ds => obtain ⟨gs, h1, h2⟩ := h; exact ⟨_, h1⟩
  | dK kvs => obtain ⟨gs, h1, h2⟩ := h; exact ⟨_, h1⟩
  | ins C dx fs => obtain ⟨gs, h1, h2⟩ := h; exact ⟨_, h1⟩
  | xd fs => obtain ⟨gs, h1, h2⟩ := h; exact ⟨_, h1⟩
def Abs (K : PySem.W.Frag) (H : Hp) (S : Sto) : Prop := ∀ a m, S a = some m → RepO K H a m
theorem Abs.sub {S T : Sto} (h : Abs K H T) (s : Sub S T) : Abs K H S := fun a m e => h a m (s a m e)
theorem Abs.free {S : Sto} (h : Abs K H S) {p : Addr} (n : H p = none) : S p = none := by
  cases e : S p with
  | none => rfl
  | some m =>
    obtain ⟨o, q⟩ := (h p m e).there
    rw [n] at q; cases q
theorem Abs.new {S : Sto} {p : Addr} {o : HO} {m : MO} (h : Abs K H S) (n : H p = none) (q : RepO K (upd H p o) p m) : Abs K (upd H p o) (put S p m) := fun a k e => by
  by_cases z : a = p
  · subst z; rw [put_same] at e; cases e; exact q
  · rw [put_ne z] at e
    exact (h a k e).mono (Tk.new n) fun u hu => by rw [upd_ne z]; exact hu
theorem Abs.tup {S : Sto} {p : Addr} {o : HO} (h : Abs K H S) (n : H p = none) : Abs K (upd H p o) S := fun a k e =>
  (h a k e).mono (Tk.new n) fun u hu => by rw [upd_ne (ne_of_none hu n)]; exact hu
theorem Abs.write {S : Sto} {p : Addr} {o u : HO} {m : MO} (h : Abs K H S) (e : H p = some u) (q : (∀ xs, u ≠ .tup xs) ∧ (∀ ob z, u ≠ .frz ob z)) (r : RepO K (upd H p o) p m) : Abs K (upd H p o) (put S p m) := fun a k ek => by
  by_cases z : a = p
  · subst z; rw [put_same] at ek; cases ek; exact r
  · rw [put_ne z] at ek
    exact (h a k ek).mono (Tk.write e q) fun v hv => by rw [upd_ne z]; exact hv
/-- what is stored is in the heap or in the written part -/
theorem Abs.same {S : Sto} (h : Abs K H S) (e : Same H H') : Abs K H' S := fun a m q => (h a m q).mono (Tk.same e) (e a)
end

/-! slots -/
structure RepS (K : PySem.W.Frag) (H : Hp) (σ : L2.St) (ρ : Rho) : Prop where
  len : σ.length = ρ.length
  at_ : ∀ (i : Nat) (d : Dv), ρ[i]? = some (some d) → ∃ v, σ[i]? = some (some v) ∧ Rep K H v d
section
variable {K : PySem.W.Frag} {H H' : Hp} {σ : L2.St} {ρ : Rho}
theorem RepS.mono (t : Tk K H H') (h : RepS K H σ ρ) : RepS K H' σ ρ := ⟨h.len, fun i d e => by
  obtain ⟨v, h1, h2⟩ := h.at_ i d e
  exact ⟨v, h1, h2.mono t⟩⟩
theorem RepS.set {v : V} {d : Dv} (h : RepS K H σ ρ) (i : Nat) (r : Rep K H v d) : RepS K H (σ.set i (some v)) (ρ.set i (some d)) := by
  refine ⟨by simp [h.len], fun j e q => ?_⟩
  by_cases hj : i = j
  · subst hj
    by_cases hl : i < ρ.length
    · rw [List.getElem?_set_self hl] at q
      cases q
      exact ⟨v, List.getElem?_set_self (by rw [h.len]; exact hl), r⟩
    · rw [List.getElem?_eq_none (by simp; omega)] at q; cases q
  · rw [List.getElem?_set_ne hj] at q ⊢
    exact h.at_ j e q
theorem RepS.setN (h : RepS K H σ ρ) (i : Nat) : RepS K H (σ.set i none) (ρ.set i none) := by
  refine ⟨by simp [h.len], fun j e q => ?_⟩
  by_cases hj : i = j
  · subst hj
    by_cases hl : i < ρ.length
    · rw [List.getElem?_set_self hl] at q; cases q
    · rw [List.getElem?_eq_none (by simp; omega)] at q; cases q
  · rw [List.getElem?_set_ne hj] at q ⊢
    exact h.at_ j e q
def wipeD (ρ : Rho) : List Nat → Rho
  | [] => ρ
  | v :: vs => (wipeD ρ vs).set v none
theorem RepS.wipe (h : RepS K H σ ρ) : ∀ vs, RepS K H (wipe σ vs) (wipeD ρ vs)
  | [] => h
  | v :: vs => (RepS.wipe h vs).setN v
def startD (N : List Str) (ds : List Dv) : Rho := ds.map some ++ List.replicate (N.length - ds.length) none
theorem RepS.start {N : List Str} : ∀ {vs : List V} {ds : List Dv}, RepL K H vs ds → RepS K H (start N vs) (startD N ds) := fun {vs ds} r => by
  have hl := r.length
  refine ⟨by simp [L2.start, startD, hl], fun i d e => ?_⟩
  unfold startD at e
  unfold L2.start
  by_cases hi : i < ds.length
  · rw [List.getElem?_append_left (by simpa using hi), List.getElem?_map] at e
    obtain ⟨d', e1, e2⟩ : ∃ d', ds[i]? = some d' ∧ d' = d := by
      cases q : ds[i]? with
      | none => rw [q] at e; cases e
      | some d' => rw [q] at e; cases e; exact ⟨_, rfl, rfl⟩
    subst e2
    obtain ⟨v, h1, h2⟩ := r.get e1
    exact ⟨v, by rw [List.getElem?_append_left (by simp; omega), List.getElem?_map, h1]; rfl, h2⟩
  · rw [List.getElem?_append_right (by simpa using hi)] at e
    rw [List.getElem?_replicate] at e
    split at e <;> cases e
end
end VD

namespace VD
open PySem PySem.Spec PyProof.Rows L2

abbrev QD := Dv → Sto → Prop
abbrev XD := Value → Option Addr → Sto → Prop
abbrev DE := Rho → Sto → QD → XD → Prop
abbrev DT := Rho → Sto → (Bool → Sto → Prop) → XD → Prop
abbrev DA := Rho → Sto → (List Dv → Sto → Prop) → XD → Prop
abbrev DO := Rho → Sto → (Option Int → Sto → Prop) → XD → Prop
structure DEnds where
  nx : Rho → Sto → Prop
  rt : Dv → Sto → Prop
  bk : Rho → Sto → Prop := fun _ _ => False
  ct : Rho → Sto → Prop := fun _ _ => False
  ex : Value → Option Addr → Rho → Sto → Prop := fun _ _ _ _ => False
abbrev DS := DEnds → Rho → Sto → Prop
abbrev W0 : WX := fun _ _ _ _ => False
abbrev X0 : XD := fun _ _ _ => False

section
variable (K : PySem.W.Frag) (W : WX)
def Lk (H : Hp) (Qh : QD) (Q : VK) : Prop := ∀ d S' v H', Qh d S' → Tk K H H' → Rep K H' v d → Abs K H' S' → Q v H'
def LkT (H : Hp) (Qh : Bool → Sto → Prop) (Q : Bool → Hp → Prop) : Prop := ∀ b S' H', Qh b S' → Tk K H H' → Abs K H' S' → Q b H'
def LkA (H : Hp) (Qh : List Dv → Sto → Prop) (Q : List V → Hp → Prop) : Prop := ∀ ds S' vs H', Qh ds S' → Tk K H H' → RepL K H' vs ds → Abs K H' S' → Q vs H'
def LkO (H : Hp) (Qh : Option Int → Sto → Prop) (Q : Option Int → Hp → Prop) : Prop := ∀ o S' H', Qh o S' → Tk K H H' → Abs K H' S' → Q o H'
def LkG (H : Hp) (Qh : Rho → Sto → Prop) (Q : L2.St → Hp → Prop) : Prop := ∀ ρ' S' σ' H', Qh ρ' S' → Tk K H H' → RepS K H' σ' ρ' → Abs K H' S' → Q σ' H'
def Lx (σ : L2.St) (H : Hp) (Xh : XD) : Prop := ∀ c da S' H', Xh c da S' → Tk K H H' → Abs K H' S' → W c da σ H'
structure LkS (H : Hp) (Dh : DEnds) (D : Ends) : Prop where
  nx : LkG K H Dh.nx D.nx
  rt : Lk K H Dh.rt D.rt
  bk : LkG K H Dh.bk D.bk
  ct : LkG K H Dh.ct D.ct
  ex : ∀ c da, LkG K H (Dh.ex c da) (W c da)
def low (de : DE) : TE := fun σ H Q => ∃ ρ S Qh Xh, RepS K H σ ρ ∧ Abs K H S ∧ de ρ S Qh Xh ∧ Lk K H Qh Q ∧ Lx K W σ H Xh
def lowT (dt : DT) : TT := fun σ H Q => ∃ ρ S Qh Xh, RepS K H σ ρ ∧ Abs K H S ∧ dt ρ S Qh Xh ∧ LkT K H Qh Q ∧ Lx K W σ H Xh
def lowA (da : DA) : TA := fun σ H Q => ∃ ρ S Qh Xh, RepS K H σ ρ ∧ Abs K H S ∧ da ρ S Qh Xh ∧ LkA K H Qh Q ∧ Lx K W σ H Xh
def lowO (da : DO) : TO := fun σ H Q => ∃ ρ S Qh Xh, RepS K H σ ρ ∧ Abs K H S ∧ da ρ S Qh Xh ∧ LkO K H Qh Q ∧ Lx K W σ H Xh
def lowS (ds : DS) : TS := fun D σ H => ∃ ρ S Dh, RepS K H σ ρ ∧ Abs K H S ∧ ds Dh ρ S ∧ LkS K W H Dh D
end
section
variable {K : PySem.W.Frag} {W : WX} {H H1 : Hp} {σ : L2.St}
theorem Lk.mono {Qh : QD} {Q : VK} (k : Lk K H Qh Q) (t : Tk K H H1) : Lk K H1 Qh Q := fun d S v H' q t' => k d S v H' q (t.trans t')
theorem LkT.mono {Qh : Bool → Sto → Prop} {Q : Bool → Hp → Prop} (k : LkT K H Qh Q) (t : Tk K H H1) : LkT K H1 Qh Q := fun d S H' q t' => k d S H' q (t.trans t')
theorem LkA.mono {Qh : List Dv → Sto → Prop} {Q : List V → Hp → Prop} (k : LkA K H Qh Q) (t : Tk K H H1) : LkA K H1 Qh Q := fun d S v H' q t' => k d S v H' q (t.trans t')
theorem LkO.mono {Qh : Option Int → Sto → Prop} {Q : Option Int → Hp → Prop} (k : LkO K H Qh Q) (t : Tk K H H1) : LkO K H1 Qh Q := fun d S H' q t' => k d S H' q (t.trans t')
theorem LkG.mono {Qh : Rho → Sto → Prop} {Q : L2.St → Hp → Prop} (k : LkG K H Qh Q) (t : Tk K H H1) : LkG K H1 Qh Q := fun d S v H' q t' => k d S v H' q (t.trans t')
theorem Lx.mono {Xh : XD} (k : Lx K W σ H Xh) (t : Tk K H H1) : Lx K W σ H1 Xh := fun c d S H' q t' => k c d S H' q (t.trans t')
theorem LkS.mono {Dh : DEnds} {D : Ends} (k : LkS K W H Dh D) (t : Tk K H H1) : LkS K W H1 Dh D := ⟨k.nx.mono t, k.rt.mono t, k.bk.mono t, k.ct.mono t, fun c d => (k.ex c d).mono t⟩
theorem Lk.now {Qh : QD} {Q : VK} (k : Lk K H Qh Q) {d : Dv} {S : Sto} {v : V} (q : Qh d S) (r : Rep K H v d) (a : Abs K H S) : Q v H := k d S v H q (Tk.refl H) r a
end

/-! weaker readings -/
section
variable {X : Cx}
theorem pei {e : Expr} {t t' : TE} (h : PE X e t) (i : ∀ σ H Q, t' σ H Q → t σ H Q) : PE X e t' := ⟨fun pins s σ H Q I q => h.run pins s σ H Q I (i σ H Q q)⟩
theorem pti {e : Expr} {t t' : TT} (h : PT X e t) (i : ∀ σ H Q, t' σ H Q → t σ H Q) : PT X e t' := ⟨fun pins s σ H Q I q => h.run pins s σ H Q I (i σ H Q q)⟩
theorem pwi {e : Expr} {t t' : TT} (h : PW X e t) (i : ∀ σ H Q, t' σ H Q → t σ H Q) : PW X e t' := ⟨fun wh pins s σ H Q I q => h.run wh pins s σ H Q I (i σ H Q q)⟩
theorem pai {e : List Expr} {t t' : TA} (h : PA X e t) (i : ∀ σ H Q, t' σ H Q → t σ H Q) : PA X e t' := ⟨fun pos pins s σ H Q I q => h.run pos pins s σ H Q I (i σ H Q q)⟩
theorem poi {e : Option Expr} {t t' : TO} (h : PO X e t) (i : ∀ σ H Q, t' σ H Q → t σ H Q) : PO X e t' := ⟨fun pins s σ H Q I q => h.run pins s σ H Q I (i σ H Q q)⟩
theorem psi {e : Stmt} {t t' : TS} (h : PS X e t) (i : ∀ D σ H, t' D σ H → t D σ H) : PS X e t' := ⟨fun pins s σ H D I q => h.run pins s σ H D I (i D σ H q)⟩
theorem pssi {e : List Stmt} {t t' : TS} (h : PSs X e t) (i : ∀ D σ H, t' D σ H → t D σ H) : PSs X e t' := ⟨fun pins s σ H D I q => h.run pins s σ H D I (i D σ H q)⟩
end

section
variable {X : Cx} {W : WX} {a b c e : Expr} {da db dc de : DE} {pos : Pos} {es : List Expr} {das : DA}

/-! names, constants -/
def dVar (i : Nat) : DE := fun ρ S Q _ => ∃ d, ρ[i]? = some (some d) ∧ Q d S
def dC (d : Dv) : DE := fun _ S Q _ => Q d S
theorem low_var (i : Nat) : ∀ σ H Q, low X.K W (dVar i) σ H Q → tVar i σ H Q := fun σ H Q ⟨ρ, S, Qh, Xh, hσ, hS, h, k, x⟩ => by
  obtain ⟨d, e, q⟩ := h
  obtain ⟨v, e', r⟩ := hσ.at_ i d e
  exact ⟨v, e', k.now q r hS⟩
theorem dv (i : Nat) {x : Str} {pos : Pos} (hN : X.N[i]? = some x := by rfl) (hv : Vis X.env.scope x := by first | exact Or.inl rfl | exact Or.inr (Or.inl rfl) | exact Or.inr (Or.inr rfl)) (hd : (x == ("__debug__" : Str)) = false := by decide)
    (hcd : (x == ("__classdict__" : Str)) = false := by decide) : PE X (.Name x pos) (low X.K W (dVar i)) := pei (pv i hN hv hd hcd) (low_var i)
theorem low_c {v : V} {d : Dv} (r : ∀ H, Rep X.K H v d) : ∀ σ H Q, low X.K W (dC d) σ H Q → tC v σ H Q := fun σ H Q ⟨ρ, S, Qh, Xh, hσ, hS, h, k, x⟩ => k.now h (r H) hS
theorem d_int {i j pos} : PE X (.Constant (.int i) j pos) (low X.K W (dC (.int i))) := pei pe_int (low_c fun _ => .int i)
theorem d_bl {b j pos} : PE X (.Constant (.bool b) j pos) (low X.K W (dC (.bl b))) := pei pe_bl (low_c fun _ => .bl b)
theorem d_non {j pos} : PE X (.Constant .none j pos) (low X.K W (dC .non)) := pei pe_non (low_c fun _ => .non)
theorem d_str {x j pos} : PE X (.Constant (.str x) j pos) (low X.K W (dC (.str x))) := pei pe_str (low_c fun _ => .str x)
/-- a written value as data -/
inductive VRep (K : PySem.W.Frag) : Value → Dv → Prop
  | mk {u : Value} {v : V} {d : Dv} (r : RelV v u) (h : ∀ H, Rep K H v d) : VRep K u d
theorem d_glob {x : Str} {u : Value} {d : Dv} {pos : Pos} (hm : X.mg x = some u) (r : VRep X.K u d) (hg : Gl X x := by rfl) (hd : (x == ("__debug__" : Str)) = false := by decide) : PE X (.Name x pos) (low X.K W (dC d)) := by
  cases r with | mk r h => exact pei (pe_glob hg hm r hd) (low_c h)
theorem d_bltn {x : Str} {v : V} {u : Value} {d : Dv} {pos : Pos} (hm : X.mg x = none) (hv : bootBuiltins x = some u) (r : RelV v u) (h : ∀ H, Rep X.K H v d) (hg : Gl X x := by rfl) (hn : x ≠ "__name__" := by decide) (hd : (x == ("__debug__" : Str)) = false := by decide) :
    PE X (.Name x pos) (low X.K W (dC d)) := pei (pe_bltn hg hm hv r hn hd) (low_c h)

/-! arguments -/
def dNil : DA := fun _ S Q _ => Q [] S
def dCons (da : DE) (dr : DA) : DA := fun ρ S Q X => da ρ S (fun x S1 => dr ρ S1 (fun xs S2 => Q (x :: xs) S2) X) X
theorem da_nil : PA X [] (lowA X.K W dNil) := pai pa_nil fun σ H Q ⟨ρ, S, Qh, Xh, hσ, hS, h, k, x⟩ => k [] S [] H h (Tk.refl H) .nil hS
theorem da_cons (ha : PE X e (low X.K W de)) (hr : PA X es (lowA X.K W das)) (hs : starEach (e :: es) X.env = (false, eval e X.env) :: starEach es X.env := by rfl) : PA X (e :: es) (lowA X.K W (dCons de das)) :=
  pai (pa_cons ha hr hs) fun σ H Q ⟨ρ, S, Qh, Xh, hσ, hS, h, k, x⟩ => ⟨ρ, S, _, Xh, hσ, hS, h, fun d S1 v H1 q1 t1 r1 a1 => ⟨ρ, S1, _, Xh, hσ.mono t1, a1, q1, fun ds S2 vs H2 q2 t2 r2 a2 => k _ S2 _ H2 q2 (t1.trans t2) (.cons (r1.mono t2) r2) a2, x.mono t1⟩, x⟩

/-! two-place operators -/
abbrev RD2 := Dv → Dv → Sto → QD → Prop
def LR2 (K : PySem.W.Frag) (r : R2) (rd : RD2) : Prop := ∀ x y H dx dy S Qh Q, Rep K H x dx → Rep K H y dy → Abs K H S → rd dx dy S Qh → Lk K H Qh Q → r x y H Q
def dOp (rd : RD2) (da db : DE) : DE := fun ρ S Q X => da ρ S (fun x S1 => db ρ S1 (fun y S2 => rd x y S2 Q) X) X
theorem low_op {r : R2} {rd : RD2} (hl : LR2 X.K r rd) : ∀ σ H Q, low X.K W (dOp rd da db) σ H Q → tOp r (low X.K W da) (low X.K W db) σ H Q := fun σ H Q ⟨ρ, S, Qh, Xh, hσ, hS, h, k, x⟩ =>
  ⟨ρ, S, _, Xh, hσ, hS, h, fun d1 S1 v1 H1 q1 t1 r1 a1 => ⟨ρ, S1, _, Xh, hσ.mono t1, a1, q1, fun d2 S2 v2 H2 q2 t2 r2 a2 => hl v1 v2 H2 d1 d2 S2 Qh Q (r1.mono t2) r2 a2 q2 (k.mono (t1.trans t2)), x.mono t1⟩, x⟩
theorem d_op {op : Operator} {r : R2} {rd : RD2} (ho : OpR X (binaryOp op) r) (hl : LR2 X.K r rd) (ha : PE X a (low X.K W da)) (hb : PE X b (low X.K W db)) : PE X (.BinOp a op b pos) (low X.K W (dOp rd da db)) := pei (pe_op ho ha hb) (low_op hl)
theorem d_cmp {op : CmpOp} {r : R2} {rd : RD2} (ho : OpR X (compareOp op) r) (hl : LR2 X.K r rd) (ha : PE X a (low X.K W da)) (hb : PE X b (low X.K W db)) (hm : behindInMarks op b = false := by first | exact nomark _ | rfl) :
    PE X (.Compare a [op] [b] pos) (low X.K W (dOp rd da db)) := pei (pe_cmpR ho ha hb hm) (low_op hl)
/-- an expression's truth, a bool -/
def dTest (de : DE) : DT := fun ρ S Q X => de ρ S (fun x S1 => match x with | .bl b => Q b S1 | _ => False) X
theorem low_tB {σ H} {Q : Bool → Hp → Prop} : lowT X.K W (dTest de) σ H Q → (low X.K W de) σ H (fun x H1 => ∃ c, x = .bl c ∧ Q c H1) := fun ⟨ρ, S, Qh, Xh, hσ, hS, h, k, x⟩ =>
  ⟨ρ, S, _, Xh, hσ, hS, h, fun d1 S1 v1 H1 q1 t1 r1 a1 => by
    cases d1 with
    | bl b => exact ⟨b, r1.i_bl, k b S1 H1 q1 t1 a1⟩
    | _ => exact q1.elim, x⟩
theorem t_cmp {op : CmpOp} {r : R2} {rd : RD2} (ho : OpR X (compareOp op) r) (hl : LR2 X.K r rd) (ha : PE X a (low X.K W da)) (hb : PE X b (low X.K W db)) (hm : behindInMarks op b = false := by first | exact nomark _ | rfl) :
    PT X (.Compare a [op] [b] pos) (lowT X.K W (dTest (dOp rd da db))) := pti (pt_cmpR ho ha hb hm) fun σ H Q h => by
  obtain ⟨ρ, S, Qh, Xh, hσ, hS, h, k, x⟩ := low_tB h
  exact low_op hl σ H _ ⟨ρ, S, Qh, Xh, hσ, hS, h, k, x⟩
theorem t_val (h : PE X e (low X.K W de)) (he : ∀ whole, isTrue e X.env whole = (do let v ← whole; standAt e.pos; holding [v] (truthy v)) := by intro _; rfl) : PT X e (lowT X.K W (dTest de)) := pti (pt_val h he) fun σ H Q q => low_tB q
def dChain (r r' : RD2) (da db dc : DE) : DE := fun ρ S Q X => da ρ S (fun x S1 => db ρ S1 (fun y S2 => r x y S2 fun z S3 => match z with
  | .bl true => dc ρ S3 (fun u S4 => r' y u S4 Q) X
  | .bl false => Q (.bl false) S3
  | _ => False) X) X
end

/-! builtins -/
abbrev RDC := List Dv → Sto → QD → Prop
def LRC (K : PySem.W.Frag) (r : List V → Hp → VK → Prop) (rd : RDC) : Prop := ∀ vs H ds S Qh Q, RepL K H vs ds → Abs K H S → rd ds S Qh → Lk K H Qh Q → r vs H Q
def dCB (rd : RDC) (das : DA) : DE := fun ρ S Q X => das ρ S (fun ds S1 => rd ds S1 Q) X
section
variable {X : Cx} {W : WX} {a b c e : Expr} {da db dc de : DE} {pos p : Pos} {es : List Expr} {das : DA} {x : Str} {id T : String} {r : List V → Hp → VK → Prop} {rd : RDC}
theorem low_cb (hl : LRC X.K r rd) : ∀ σ H Q, low X.K W (dCB rd das) σ H Q → tCB r (lowA X.K W das) σ H Q := fun σ H Q ⟨ρ, S, Qh, Xh, hσ, hS, h, k, x⟩ =>
  ⟨ρ, S, _, Xh, hσ, hS, h, fun ds S1 vs H1 q1 t1 r1 a1 => hl vs H1 ds S1 Qh Q r1 a1 q1 (k.mono t1), x⟩
theorem d_callB (hc : CallR X (.builtin id) r) (hl : LRC X.K r rd) (hm : X.mg x = none) (hv : bootBuiltins x = some (.builtin id)) (ha : PA X (e :: es) (lowA X.K W das)) (hg : Gl X x := by rfl) (hn : x ≠ "__name__" := by decide) (hdb : (x == ("__debug__" : Str)) = false := by decide)
    (he : starEach (e :: es) X.env = (false, eval e X.env) :: starEach es X.env := by rfl) (hpl : (backTo pos (starEach es X.env)).any (·.1) = false := by rfl) : PE X (.Call (.Name x p) (e :: es) [] pos) (low X.K W (dCB rd das)) := pei (pe_callB hc hg hm hv ha hn hdb he hpl) (low_cb hl)
theorem d_callTy (hc : CallR X (.type T) r) (hl : LRC X.K r rd) (hm : X.mg x = none) (hv : bootBuiltins x = some (.type T)) (ha : PA X (e :: es) (lowA X.K W das)) (hg : Gl X x := by rfl) (hn : x ≠ "__name__" := by decide) (hdb : (x == ("__debug__" : Str)) = false := by decide)
    (he : starEach (e :: es) X.env = (false, eval e X.env) :: starEach es X.env := by rfl) (hpl : (backTo pos (starEach es X.env)).any (·.1) = false := by rfl) : PE X (.Call (.Name x p) (e :: es) [] pos) (low X.K W (dCB rd das)) := pei (pe_callTy hc hg hm hv ha hn hdb he hpl) (low_cb hl)

/-! own defs -/
abbrev SpD := List Dv → Sto → QD → XD → Prop
def LxE (K : PySem.W.Frag) (H : Hp) (Xh : XD) (E : XK) : Prop := ∀ c da S' H', Xh c da S' → Tk K H H' → Abs K H' S' → E c da H'
def lowF (K : PySem.W.Frag) (sp : SpD) : Sp := fun vs H Q E => ∃ ds S Qh Xh, RepL K H vs ds ∧ Abs K H S ∧ sp ds S Qh Xh ∧ Lk K H Qh Q ∧ LxE K H Xh E
def dCall (sp : SpD) (das : DA) : DE := fun ρ S Q X => das ρ S (fun ds S1 => sp ds S1 Q X) X
variable {sp : SpD} {k : Nat} {f : Addr} {fd : FuncData} {ps : List Str}
abbrev FnD (P : Program) (w : World) (K : PySem.W.Frag) (mg : Str → Option Value) (base : Heap) (k : Nat) (f : Addr) (fd : FuncData) (ps : List Str) (sp : SpD) : Prop := FnG P w K mg base (L2.CX P w) k f fd ps (lowF K sp)
theorem d_call (F : FnD X.prog X.w X.K X.mg X.base k f fd ps sp) (hr : RoomG k X.A) (hm : X.mg x = some (.ref f)) (hk : PySem.W.keepIn X.K (.ref f) = true) (hb : Binds X.K fd ps []) (tk : Takes X W) (ha : PA X (e :: es) (lowA X.K W das))
    (hg : Gl X x := by rfl) (hdb : (x == ("__debug__" : Str)) = false := by decide) (he : starEach (e :: es) X.env = (false, eval e X.env) :: starEach es X.env := by rfl) (hpl : (backTo pos (starEach es X.env)).any (·.1) = false := by rfl) :
    PE X (.Call (.Name x p) (e :: es) [] pos) (low X.K W (dCall sp das)) :=
  pei (pe_callG F hr hg hm hk hb (fun σ => passAt tk σ) ha hdb he hpl) fun σ H Q ⟨ρ, S, Qh, Xh, hσ, hS, h, k, x⟩ => ⟨ρ, S, _, Xh, hσ, hS, h, fun ds S1 vs H1 q1 t1 r1 a1 => ⟨ds, S1, Qh, Xh, r1, a1, q1, k.mono t1, x.mono t1⟩, x⟩
end

section
variable {X : Cx} {W : WX} {a b c e o : Expr} {da db dc de : DE} {pos p apos : Pos} {es : List Expr} {das : DA} {x m f : Str} {sp : SpD} {k : Nat} {g C : Addr} {fd : FuncData} {ps : List Str}
/-! ### instances -/
/-- what stands there is an instance: its class, its fields -/
def insOf (d : Dv) (S : Sto) (R : Addr → List Str → List Dv → Prop) : Prop := match d with
  | .obj C ns ds => R C ns ds
  | .ref a => match S a with
    | some (.ins C _ fs) => R C (fs.map (·.1)) (fs.map (·.2))
    | _ => False
  | _ => False
/-- the field f of such -/
def getF (f : Str) : List Str → List Dv → Option Dv
  | n :: ns, d :: ds => if (f == n) = true then some d else getF f ns ds
  | _, _ => none
theorem getF_i {K : PySem.W.Frag} {H : Hp} {f : Str} {d : Dv} : ∀ {ns : List Str} {vs : List V} {ds : List Dv}, RepL K H vs ds → getF f ns ds = some d → ∃ v, (ns.zip vs).lookup f = some v ∧ Rep K H v d
  | [], _, _, _, e => by simp [getF] at e
  | n :: ns, _, [], _, e => by simp [getF] at e
  | n :: ns, _, d' :: ds, l, e => by
    obtain ⟨v, vs, rfl, r, l'⟩ := l.cons_i
    unfold getF at e
    rw [List.zip_cons_cons, List.lookup_cons]
    cases h : f == n with
    | true =>
      rw [if_pos h] at e
      cases e
      exact ⟨v, rfl, r⟩
    | false =>
      rw [if_neg (by rw [h]; decide)] at e
      exact getF_i l' e
theorem repF_zip {K : PySem.W.Frag} {H : Hp} : ∀ {gs : List (Str × V)} {fs : List (Str × Dv)}, RepF K H gs fs → RepL K H (gs.map (·.2)) (fs.map (·.2)) ∧ gs = (fs.map (·.1)).zip (gs.map (·.2)) ∧ gs.map (·.1) = fs.map (·.1)
  | _, _, .nil => ⟨.nil, rfl, rfl⟩
  | (g, v) :: gs, (n, d) :: fs, .cons ⟨e, r⟩ t => by
    dsimp only at e r
    obtain ⟨h1, h2, h3⟩ := repF_zip t
    subst e
    refine ⟨.cons r h1, ?_, by simp [h3]⟩
    simp only [List.map_cons, List.zip_cons_cons]
    rw [← h2]
theorem insOf_i {K : PySem.W.Frag} {H : Hp} {S : Sto} {d : Dv} {v : V} {R : Addr → List Str → List Dv → Prop} (r : Rep K H v d) (hS : Abs K H S) (h : insOf d S R) : ∃ a C dx ns vs ds, v = .ref a ∧ InsAt H a C dx (ns.zip vs) ∧ ns.length = vs.length ∧ RepL K H vs ds ∧ R C ns ds := by
  unfold insOf at h
  split at h
  · obtain ⟨a, dx, ob, vs, rfl, e, l, rl⟩ := r.i_obj
    exact ⟨a, _, dx, _, vs, _, rfl, .inr ⟨ob, e⟩, l, rl, h⟩
  · rename_i a
    split at h
    · rename_i C dx fs ea
      obtain ⟨gs, h1, h2⟩ := hS _ _ ea
      obtain ⟨g1, g2, g3⟩ := repF_zip h2
      refine ⟨a, C, dx, _, gs.map (·.2), _, r.i_ref, .inl (by rw [← g2]; exact h1), ?_, g1, h⟩
      rw [← g3]; simp
    · exact h.elim
  · exact h.elim
/-- e.f -/
def dFld (cs : List Addr) (f : Str) (de : DE) : DE := fun ρ S Q X => de ρ S (fun x S1 => insOf x S1 fun C ns ds => C ∈ cs ∧ ∃ d, getF f ns ds = some d ∧ Q d S1) X
theorem d_fld {cs : List Addr} (hc : ∀ C ∈ cs, Cls X.K C ∧ NoAttr X.K C f) (he : PE X e (low X.K W de)) (hb : attributeBase e f X.env (eval e X.env) = eval e X.env := by rfl) : PE X (.Attribute e f pos) (low X.K W (dFld cs f de)) :=
  pei (pe_fldG he hc hb) fun σ H Q ⟨ρ, S, Qh, Xh, hσ, hS, h, k, x⟩ => ⟨ρ, S, _, Xh, hσ, hS, h, fun d1 S1 v1 H1 q1 t1 r1 a1 => by
    obtain ⟨a, C, dx, ns, vs, ds, rfl, e1, l, rl, hm, d, hd, q⟩ := insOf_i r1 a1 q1
    obtain ⟨v, hv, rv⟩ := getF_i rl hd
    exact ⟨a, C, dx, _, v, rfl, e1, hm, hv, k d S1 v H1 q t1 rv a1⟩, x⟩
/-! methods -/
def dMeth (tab : List (Addr × SpD)) (m : Str) (dO : DE) (das : DA) : DE := fun ρ S Q X => dO ρ S (fun x S1 => insOf x S1 fun C ns ds => getF m ns ds = none ∧ ∃ sp, (C, sp) ∈ tab ∧ das ρ S1 (fun vs S2 => sp (x :: vs) S2 Q X) X) X
/-- the class C, its method m at level up to k -/
structure MT (X : Cx) (m : Str) (k : Nat) (C : Addr) (sp : SpD) : Prop where
  c : Cls X.K C
  go : ∃ g, Meth X.K C m g ∧ ∃ (k' : Nat) (fd : FuncData) (ps : List Str), k' ≤ k ∧ FnD X.prog X.w X.K X.mg X.base k' g fd ps sp ∧ Binds X.K fd ps []
/-! C(..): kept in the store -/
/-- what is made is frozen: a list, a dict, an instance by its value -/
def frzD (d : Dv) (S : Sto) (Q : QD) : Prop := match d with
  | .ref a => match S a with
    | some (.lst xs) => Q (.rol xs) (rm S a)
    | some (.dK kvs) => Q (.rod (kvs.map (·.1)) (kvs.map (·.2))) (rm S a)
    | some (.ins C _ fs) => Q (.obj C (fs.map (·.1)) (fs.map (·.2))) (rm S a)
    | _ => False
  | d => Q d S
theorem lk_frzD {K : PySem.W.Frag} {H1 : Hp} {S1 : Sto} {v1 : V} {d1 : Dv} {Qh : QD} {Q : VK} (r1 : Rep K H1 v1 d1) (a1 : Abs K H1 S1) (q1 : frzD d1 S1 Qh) (k : Lk K H1 Qh Q) : Q v1 H1 ∨ ∃ a u, v1 = .ref a ∧ H1 a = some u ∧ canFrz u = true ∧ ∀ o, Q v1 (upd H1 a (.frz o u)) := by
  unfold frzD at q1
  have offS : ∀ {a : Addr} {o : Obj} {u : HO}, H1 a = some u → canFrz u = true → Tk K H1 (upd H1 a (.frz o u)) ∧ Abs K (upd H1 a (.frz o u)) (rm S1 a) := by
    intro a o u e hu
    have ne : ∀ b z, H1 b = some z → canFrz z = false → b ≠ a := fun b z hb hz q => by subst q; rw [e] at hb; cases hb; rw [hu] at hz; cases hz
    have t : Tk K H1 (upd H1 a (.frz o u)) := Tk.of fun b z hz => by
      by_cases hb : b = a
      · subst hb; rw [e] at hz; cases hz
        exact .inl ⟨fun xs q => by (subst q; cases hu), fun ob w q => by (subst q; cases hu)⟩
      · exact .inr (by rw [upd_ne hb]; exact hz)
    refine ⟨t, fun b m hb => ?_⟩
    by_cases q : b = a
    · rw [q, rm_same] at hb; cases hb
    · rw [rm_ne q] at hb
      exact (a1 b m hb).mono t fun z hz => by rw [upd_ne q]; exact hz
  split at q1
  · rename_i a
    split at q1
    · rename_i xs ea
      obtain ⟨us, h1, l⟩ := a1 _ _ ea
      refine .inr ⟨a, _, r1.i_ref, h1, rfl, fun o => ?_⟩
      obtain ⟨t, ab⟩ := offS (o := o) h1 rfl
      rw [r1.i_ref]
      exact k _ _ _ _ q1 t (.rol (.inl ⟨o, upd_same⟩) (l.mono t)) ab
    · rename_i kvs ea
      obtain ⟨us, h1, l⟩ := a1 _ _ ea
      refine .inr ⟨a, _, r1.i_ref, h1, rfl, fun o => ?_⟩
      obtain ⟨t, ab⟩ := offS (o := o) h1 rfl
      rw [r1.i_ref]
      have z : ∀ {gs : List (Key × V)} {fs : List (Key × Dv)}, RepK K H1 gs fs → RepL K H1 (gs.map (·.2)) (fs.map (·.2)) ∧ gs = (fs.map (·.1)).zip (gs.map (·.2)) ∧ (fs.map (·.1)).length = (gs.map (·.2)).length := by
        intro gs fs h
        induction h with
        | nil => exact ⟨.nil, rfl, rfl⟩
        | @cons p q gs fs hp t ih =>
          obtain ⟨g, v⟩ := p
          obtain ⟨n, d⟩ := q
          obtain ⟨e, r⟩ := hp
          dsimp only at e r
          subst e
          refine ⟨.cons r ih.1, ?_, by simpa using ih.2.2⟩
          simp only [List.map_cons, List.zip_cons_cons]
          rw [← ih.2.1]
      obtain ⟨z1, z2, z3⟩ := z l
      exact k _ _ _ _ q1 t (.rod (o := o) (vs := us.map (·.2)) (by rw [← z2]; exact upd_same) z3 (z1.mono t)) ab
    · rename_i C dx fs ea
      obtain ⟨us, h1, l⟩ := a1 _ _ ea
      refine .inr ⟨a, _, r1.i_ref, h1, rfl, fun o => ?_⟩
      obtain ⟨t, ab⟩ := offS (o := o) h1 rfl
      rw [r1.i_ref]
      obtain ⟨z1, z2, z3⟩ := repF_zip l
      exact k _ _ _ _ q1 t (.obj (o := o) (dx := dx) (vs := us.map (·.2)) (by rw [← z2]; exact upd_same) (by rw [← z3]; simp) (z1.mono t)) ab
    · exact q1.elim
  · exact .inl (k _ _ _ _ q1 (Tk.refl _) r1 a1)
def dFrz (de : DE) : DE := fun ρ S Q X => de ρ S (fun d S1 => frzD d S1 Q) X
theorem d_frz (h : PE X e (low X.K W de)) : PE X e (low X.K W (dFrz de)) := pei (pe_frz h) fun σ H Q ⟨ρ, S, Qh, Xh, hσ, hS, h, k, x⟩ => ⟨ρ, S, _, Xh, hσ, hS, h, fun d1 S1 v1 H1 q1 t1 r1 a1 => lk_frzD r1 a1 q1 (k.mono t1), x⟩
end

/-! and, or, not, if as values and as tests -/
section
variable {X : Cx} {W : WX} {a b c e : Expr} {da db dc de : DE} {pos : Pos} {rest : List Expr} {ta tb : DT}
def dAndV (da db : DE) : DE := fun ρ S Q X => da ρ S (fun x S1 => match x with | .bl true => db ρ S1 Q X | .bl false => Q (.bl false) S1 | _ => False) X
def dOrV (da db : DE) : DE := fun ρ S Q X => da ρ S (fun x S1 => match x with | .bl true => Q (.bl true) S1 | .bl false => db ρ S1 Q X | _ => False) X
def dNotV (da : DE) : DE := fun ρ S Q X => da ρ S (fun x S1 => match x with | .bl b => Q (.bl (!b)) S1 | _ => False) X
def dIf (t : DT) (da db : DE) : DE := fun ρ S Q X => t ρ S (fun b S1 => if b = true then da ρ S1 Q X else db ρ S1 Q X) X
theorem d_one {op} (h : PE X a (low X.K W da)) : PE X (.BoolOp op [a] pos) (low X.K W da) := pe_one h
theorem d_and (ha : PE X a (low X.K W da)) (hb : PE X (.BoolOp .And (b :: rest) pos) (low X.K W db)) : PE X (.BoolOp .And (a :: b :: rest) pos) (low X.K W (dAndV da db)) := pei (pe_and ha hb) fun σ H Q ⟨ρ, S, Qh, Xh, hσ, hS, h, k, x⟩ =>
  ⟨ρ, S, _, Xh, hσ, hS, h, fun d1 S1 v1 H1 q1 t1 r1 a1 => by
    cases d1 with
    | bl b =>
      refine ⟨b, r1.i_bl, ?_⟩
      cases b with
      | true => exact ⟨ρ, S1, Qh, Xh, hσ.mono t1, a1, q1, k.mono t1, x.mono t1⟩
      | false => exact (k.mono t1).now q1 (.bl false) a1
    | _ => exact q1.elim, x⟩
theorem d_not (ha : PE X a (low X.K W da)) : PE X (.UnaryOp .Not a pos) (low X.K W (dNotV da)) := pei (pe_not ha) fun σ H Q ⟨ρ, S, Qh, Xh, hσ, hS, h, k, x⟩ =>
  ⟨ρ, S, _, Xh, hσ, hS, h, fun d1 S1 v1 H1 q1 t1 r1 a1 => by
    cases d1 with
    | bl b => exact ⟨b, r1.i_bl, (k.mono t1).now q1 (.bl _) a1⟩
    | _ => exact q1.elim, x⟩
def dAndT (t u : DT) : DT := fun ρ S Q X => t ρ S (fun b S1 => if b = true then u ρ S1 Q X else Q false S1) X
def dOrT (t u : DT) : DT := fun ρ S Q X => t ρ S (fun b S1 => if b = true then Q true S1 else u ρ S1 Q X) X
def dNotT (t : DT) : DT := fun ρ S Q X => t ρ S (fun b S1 => Q (!b) S1) X
theorem t_and1 (ha : PT X a (lowT X.K W ta)) : PW X (.BoolOp .And [a] pos) (lowT X.K W ta) := pw_and1 ha
theorem t_or1 (ha : PT X a (lowT X.K W ta)) : PW X (.BoolOp .Or [a] pos) (lowT X.K W ta) := pw_or1 ha
theorem t_and (ha : PT X a (lowT X.K W ta)) (hb : PW X (.BoolOp .And (b :: rest) pos) (lowT X.K W tb)) : PW X (.BoolOp .And (a :: b :: rest) pos) (lowT X.K W (dAndT ta tb)) := pwi (pw_and ha hb) fun σ H Q ⟨ρ, S, Qh, Xh, hσ, hS, h, k, x⟩ =>
  ⟨ρ, S, _, Xh, hσ, hS, h, fun b S1 H1 q1 t1 a1 => by
    cases b with
    | true => exact ⟨ρ, S1, Qh, Xh, hσ.mono t1, a1, q1, k.mono t1, x.mono t1⟩
    | false => exact k _ S1 H1 q1 t1 a1, x⟩
theorem t_or (ha : PT X a (lowT X.K W ta)) (hb : PW X (.BoolOp .Or (b :: rest) pos) (lowT X.K W tb)) : PW X (.BoolOp .Or (a :: b :: rest) pos) (lowT X.K W (dOrT ta tb)) := pwi (pw_or ha hb) fun σ H Q ⟨ρ, S, Qh, Xh, hσ, hS, h, k, x⟩ =>
  ⟨ρ, S, _, Xh, hσ, hS, h, fun b S1 H1 q1 t1 a1 => by
    cases b with
    | true => exact k _ S1 H1 q1 t1 a1
    | false => exact ⟨ρ, S1, Qh, Xh, hσ.mono t1, a1, q1, k.mono t1, x.mono t1⟩, x⟩
theorem t_not (ha : PT X a (lowT X.K W ta)) : PT X (.UnaryOp .Not a pos) (lowT X.K W (dNotT ta)) := pti (pt_not ha) fun σ H Q ⟨ρ, S, Qh, Xh, hσ, hS, h, k, x⟩ =>
  ⟨ρ, S, _, Xh, hσ, hS, h, fun b S1 H1 q1 t1 a1 => k _ S1 H1 q1 t1 a1, x⟩
theorem d_chain {op op' : CmpOp} {r r' : R2} {rd rd' : RD2} (ho : OpR X (compareOp op) r) (hl : LR2 X.K r rd) (ho' : OpR X (compareOp op') r') (hl' : LR2 X.K r' rd') (ha : PE X a (low X.K W da)) (hb : PE X b (low X.K W db)) (hc : PE X c (low X.K W dc))
    (hm : lastMarks [op, op'] [b, c] = false := by with_unfolding_all rfl) : PE X (.Compare a [op, op'] [b, c] pos) (low X.K W (dChain rd rd' da db dc)) :=
  pei (pe_chain ho ho' ha hb hc hm) fun σ H Q ⟨ρ, S, Qh, Xh, hσ, hS, h, k, x⟩ =>
  ⟨ρ, S, _, Xh, hσ, hS, h, fun d1 S1 v1 H1 q1 t1 r1 a1 => ⟨ρ, S1, _, Xh, hσ.mono t1, a1, q1, fun d2 S2 v2 H2 q2 t2 r2 a2 => hl v1 v2 H2 d1 d2 S2 _ _ (r1.mono t2) r2 a2 q2 fun d3 S3 v3 H3 q3 t3 r3 a3 => by
    cases d3 with
    | bl b =>
      refine ⟨b, r3.i_bl, ?_⟩
      cases b with
      | true =>
        refine iteT ⟨ρ, S3, _, Xh, hσ.mono ((t1.trans t2).trans t3), a3, q3, fun d4 S4 v4 H4 q4 t4 r4 a4 => hl' v2 v4 H4 d2 d4 S4 Qh Q (r2.mono (t3.trans t4)) r4 a4 q4 (k.mono (((t1.trans t2).trans t3).trans t4)), x.mono ((t1.trans t2).trans t3)⟩
      | false => exact iteF ((k.mono ((t1.trans t2).trans t3)).now q3 (.bl false) a3)
    | _ => exact q3.elim, x.mono t1⟩, x⟩
theorem t_chain {op op' : CmpOp} {r r' : R2} {rd rd' : RD2} (ho : OpR X (compareOp op) r) (hl : LR2 X.K r rd) (ho' : OpR X (compareOp op') r') (hl' : LR2 X.K r' rd') (ha : PE X a (low X.K W da)) (hb : PE X b (low X.K W db)) (hc : PE X c (low X.K W dc))
    (hm : lastMarks [op, op'] [b, c] = false := by with_unfolding_all rfl) : PT X (.Compare a [op, op'] [b, c] pos) (lowT X.K W (dTest (dChain rd rd' da db dc))) :=
  pti (pt_chain ho ho' ha hb hc hm) fun σ H Q h => by
  obtain ⟨ρ, S, Qh, Xh, hσ, hS, h, k, x⟩ := low_tB h
  exact ⟨ρ, S, _, Xh, hσ, hS, h, fun d1 S1 v1 H1 q1 t1 r1 a1 => ⟨ρ, S1, _, Xh, hσ.mono t1, a1, q1, fun d2 S2 v2 H2 q2 t2 r2 a2 => hl v1 v2 H2 d1 d2 S2 _ _ (r1.mono t2) r2 a2 q2 fun d3 S3 v3 H3 q3 t3 r3 a3 => by
    cases d3 with
    | bl b =>
      refine ⟨b, r3.i_bl, ?_⟩
      cases b with
      | true =>
        refine iteT ⟨ρ, S3, _, Xh, hσ.mono ((t1.trans t2).trans t3), a3, q3, fun d4 S4 v4 H4 q4 t4 r4 a4 => hl' v2 v4 H4 d2 d4 S4 Qh _ (r2.mono (t3.trans t4)) r4 a4 q4 (k.mono (((t1.trans t2).trans t3).trans t4)), x.mono ((t1.trans t2).trans t3)⟩
      | false =>
        exact iteF ((k.mono ((t1.trans t2).trans t3)).now q3 (.bl false) a3)
    | _ => exact q3.elim, x.mono t1⟩, x⟩
end
end VD

namespace VD
open PySem PySem.Spec PyProof.Rows L2

section
variable {K : PySem.W.Frag} {W : WX} {H H1 : Hp} {σ : L2.St} {ρ : Rho}
theorem LkS.lx {Dh : DEnds} {D : Ends} (k : LkS K W H Dh D) (hσ : RepS K H σ ρ) : Lx K W σ H (fun c da S => Dh.ex c da ρ S) := fun c da S' H' q t a => k.ex c da ρ S' σ H' q t (hσ.mono t) a
theorem LkS.nexts {Dh : DEnds} {D : Ends} (k : LkS K W H Dh D) {nh : Rho → Sto → Prop} {n : L2.St → Hp → Prop} (h : LkG K H nh n) : LkS K W H { Dh with nx := nh } { D with nx := n } := ⟨h, k.rt, k.bk, k.ct, k.ex⟩
theorem LkS.loop {Dh : DEnds} {D : Ends} (k : LkS K W H Dh D) {nh : Rho → Sto → Prop} {n : L2.St → Hp → Prop} (h : LkG K H nh n) : LkS K W H { Dh with nx := nh, ct := nh, bk := Dh.nx } { D with nx := n, ct := n, bk := D.nx } := ⟨h, k.rt, k.nx, h, k.ex⟩
theorem LkG.now {Qh : Rho → Sto → Prop} {Q : L2.St → Hp → Prop} (k : LkG K H Qh Q) {S : Sto} (q : Qh ρ S) (r : RepS K H σ ρ) (a : Abs K H S) : Q σ H := k ρ S σ H q (Tk.refl H) r a
end
/-- the ends of a statement as the wish of an expression -/
abbrev DEnds.xd (D : DEnds) (ρ : Rho) : XD := fun c da S => D.ex c da ρ S

section
variable {X : Cx} {W : WX} {st : Stmt} {rest sts body : List Stmt} {a b : DS} {e c : Expr} {de : DE} {dt : DT} {pos : Pos}
def dSeq (a b : DS) : DS := fun D ρ S => a { D with nx := b D } ρ S
def dNext : DS := fun D ρ S => D.nx ρ S
theorem s_nil : PSs X [] (lowS X.K W dNext) := pssi pss_nil fun D σ H ⟨ρ, S, Dh, hσ, hS, h, k⟩ => k.nx.now h hσ hS
theorem s_cons (h1 : PS X st (lowS X.K W a)) (h2 : PSs X rest (lowS X.K W b)) : PSs X (st :: rest) (lowS X.K W (dSeq a b)) := pssi (pss_cons h1 h2) fun D σ H ⟨ρ, S, Dh, hσ, hS, h, k⟩ =>
  ⟨ρ, S, { Dh with nx := b Dh }, hσ, hS, h, k.nexts fun ρ' S' σ' H' q t r a => ⟨ρ', S', Dh, r, a, q, k.mono t⟩⟩
theorem s_one (h1 : PS X st (lowS X.K W a)) : PSs X [st] (lowS X.K W a) := pss_one h1
def dBreak : DS := fun D ρ S => D.bk ρ S
def dCont : DS := fun D ρ S => D.ct ρ S
def dDrop (de : DE) : DS := fun D ρ S => de ρ S (fun _ S1 => D.nx ρ S1) (D.xd ρ)
theorem s_expr (he : PE X e (low X.K W de)) (hs : swapsWith e none pos.line X.env = pure false := by rfl) : PS X (.Expr e pos) (lowS X.K W (dDrop de)) := psi (ps_expr he hs) fun D σ H ⟨ρ, S, Dh, hσ, hS, h, k⟩ =>
  ⟨ρ, S, _, _, hσ, hS, h, fun d S1 v H1 q t r a => k.nx ρ S1 σ H1 q t (hσ.mono t) a, k.lx hσ⟩
def dRet (de : DE) : DS := fun D ρ S => de ρ S D.rt (D.xd ρ)
theorem s_ret (he : PE X e (low X.K W de)) : PS X (.Return (some e) pos) (lowS X.K W (dRet de)) := psi (ps_ret he) fun D σ H ⟨ρ, S, Dh, hσ, hS, h, k⟩ => ⟨ρ, S, _, _, hσ, hS, h, k.rt, k.lx hσ⟩
def dRetN : DS := fun D _ S => D.rt .non S
def dIfS (c : DT) (t u : DS) : DS := fun D ρ S => c ρ S (fun b S1 => if b = true then t D ρ S1 else u D ρ S1) (D.xd ρ)
theorem s_if {sa sb : List Stmt} (hc : PT X c (lowT X.K W dt)) (ha : PSs X sa (lowS X.K W a)) (hb : PSs X sb (lowS X.K W b)) : PS X (.If c sa sb pos) (lowS X.K W (dIfS dt a b)) := psi (ps_if hc ha hb) fun D σ H ⟨ρ, S, Dh, hσ, hS, h, k⟩ =>
  ⟨ρ, S, _, _, hσ, hS, h, fun bb S1 H1 q t aa => by
    cases bb with
    | true => exact ⟨ρ, S1, Dh, hσ.mono t, aa, q, k.mono t⟩
    | false => exact ⟨ρ, S1, Dh, hσ.mono t, aa, q, k.mono t⟩, k.lx hσ⟩
/-! targets -/
abbrev DG := Dv → Rho → Sto → (Rho → Sto → Prop) → Prop
abbrev DGs := List Dv → Rho → Sto → (Rho → Sto → Prop) → Prop
def lowG (K : PySem.W.Frag) (g : DG) : TG := fun v σ H Q => ∃ d ρ S Qh, Rep K H v d ∧ RepS K H σ ρ ∧ Abs K H S ∧ g d ρ S Qh ∧ LkG K H Qh Q
def lowGs (K : PySem.W.Frag) (g : DGs) : TGs := fun vs σ H Q => ∃ ds ρ S Qh, RepL K H vs ds ∧ RepS K H σ ρ ∧ Abs K H S ∧ g ds ρ S Qh ∧ LkG K H Qh Q
def gN (i : Nat) : DG := fun d ρ S Q => Q (ρ.set i (some d)) S
def gNilD : DGs := fun ds ρ S Q => match ds with | [] => Q ρ S | _ => False
def gConsD (g : DG) (r : DGs) : DGs := fun ds ρ S Q => match ds with | d :: t => g d ρ S fun ρ' S' => r t ρ' S' Q | [] => False
def gT (n : Nat) (g : DGs) : DG := fun d ρ S Q => match d with | .tup ds => ds.length = n ∧ g ds ρ S Q | _ => False
variable {tg : Expr} {es : List Expr} {g : DG} {gs : DGs}
theorem pgi {t t' : TG} (h : PG X e t) (i : ∀ v σ H Q, t' v σ H Q → t v σ H Q) : PG X e t' := ⟨fun pins s σ H v u Q I r q => h.run pins s σ H v u Q I r (i v σ H Q q)⟩
theorem pgsi {t t' : TGs} (h : PGs X es t) (i : ∀ v σ H Q, t' v σ H Q → t v σ H Q) : PGs X es t' := ⟨fun pins s σ H v u Q I r q => h.run pins s σ H v u Q I r (i v σ H Q q)⟩
theorem g_name (i : Nat) {x : Str} (hN : X.N.Nodup) (hi : X.N[i]? = some x := by rfl) (hx : Loc X.env.scope x := by first | exact Or.inl rfl | exact Or.inr rfl) (hf : X.fn x = true ∨ X.env.scope.names.lookup x = some .local := by first | exact .inl rfl | exact .inr rfl | assumption) :
    PG X (.Name x pos) (lowG X.K (gN i)) := pgi (pg_name hN hi hx hf) fun v σ H Q ⟨d, ρ, S, Qh, r, hσ, hS, h, k⟩ => k.now h (hσ.set i r) hS
theorem g_nil : PGs X [] (lowGs X.K gNilD) := pgsi pgs_nil fun vs σ H Q ⟨ds, ρ, S, Qh, r, hσ, hS, h, k⟩ => by
  cases ds with
  | nil => exact ⟨r.nil_i, k.now h hσ hS⟩
  | cons d t => exact h.elim
theorem g_cons (h1 : PG X e (lowG X.K g)) (h2 : PGs X es (lowGs X.K gs)) (hs : (assignEach (e :: es) X.env).map (·.2) = assign e X.env :: (assignEach es X.env).map (·.2) := by rfl) : PGs X (e :: es) (lowGs X.K (gConsD g gs)) :=
  pgsi (pgs_cons h1 h2 hs) fun vs σ H Q ⟨ds, ρ, S, Qh, r, hσ, hS, h, k⟩ => by
  cases ds with
  | nil => exact h.elim
  | cons d t =>
    obtain ⟨v, r', rfl, rv, rr⟩ := r.cons_i
    exact ⟨v, r', rfl, d, ρ, S, _, rv, hσ, hS, h, fun ρ' S' σ' H' q tt rs aa => ⟨t, ρ', S', Qh, rr.mono tt, rs, aa, q, k.mono tt⟩⟩
theorem g_tup {kk : Nat} {n : Nat} (hc : X.calm = true) (h : PGs X es (lowGs X.K gs)) (hn : (assignEach es X.env).length = n := by rfl) (hst : (assignEach es X.env).findIdx? (·.1) = none := by rfl) : PG X (.Tuple es kk pos) (lowG X.K (gT n gs)) :=
  pgi (pg_tup hc h hn hst) fun v σ H Q ⟨d, ρ, S, Qh, r, hσ, hS, h, k⟩ => by
  cases d with
  | tup ds =>
    obtain ⟨p, xs, rfl, hq, rl⟩ := r.i_tup
    exact ⟨p, xs, rfl, hq, by rw [rl.length]; exact h.1, ds, ρ, S, Qh, rl, hσ, hS, h.2, k⟩
  | _ => exact h.elim
/-- o[i] = v -/
abbrev RDS := Dv → Dv → Dv → Sto → (Sto → Prop) → Prop
def LRS (K : PySem.W.Frag) (r : TSet) (rd : RDS) : Prop := ∀ o i v H dO dI d S (Qh : Sto → Prop) (Q : Hp → Prop), Rep K H o dO → Rep K H i dI → Rep K H v d → Abs K H S → rd dO dI d S Qh → (∀ S' H', Qh S' → Tk K H H' → Abs K H' S' → Q H') → r o i v H Q
def gSubD (rd : RDS) (dO di : DE) : DG := fun d ρ S Q => dO ρ S (fun o S1 => di ρ S1 (fun i S2 => rd o i d S2 fun S3 => Q ρ S3) X0) X0
theorem lx0 {K : PySem.W.Frag} {σ : L2.St} {H : Hp} : Lx K W σ H X0 := fun _ _ _ _ q => q.elim
theorem g_sub {o i : Expr} {dO di : DE} {r : TSet} {rd : RDS} (hs : PSet X r) (hl : LRS X.K r rd) (ho : PE X o (low X.K W dO)) (hi : PE X i (low X.K W di))
    (ha : ∀ v, assign (.Subscript o i pos) X.env v = (do
      let ov ← holding [v] (eval o X.env)
      let iv ← holding [v, ov] (eval i X.env)
      standAt pos
      holding [v, ov, iv] (setItem ov iv v)
      release [v, ov, iv] []) := by intro _; rfl) : PG X (.Subscript o i pos) (lowG X.K (gSubD rd dO di)) := pgi (pg_sub ho hi hs ha) fun v σ H Q ⟨d, ρ, S, Qh, r, hσ, hS, h, k⟩ =>
  ⟨ρ, S, _, X0, hσ, hS, h, fun d1 S1 v1 H1 q1 t1 r1 a1 => ⟨ρ, S1, _, X0, hσ.mono t1, a1, q1, fun d2 S2 v2 H2 q2 t2 r2 a2 => hl v1 v2 v H2 d1 d2 d S2 _ _ (r1.mono t2) r2 (r.mono (t1.trans t2)) a2 q2 fun S3 H3 q3 t3 a3 =>
    k ρ S3 σ H3 q3 ((t1.trans t2).trans t3) (hσ.mono ((t1.trans t2).trans t3)) a3, lx0⟩, lx0⟩
def dAsg (de : DE) (g : DG) : DS := fun D ρ S => de ρ S (fun d S1 => g d ρ S1 D.nx) (D.xd ρ)
theorem s_asg (he : PE X e (low X.K W de)) (hg : PG X tg (lowG X.K g)) (hs : swapsWithSole [tg] e pos.line X.env = pure false := by rfl) (hw : swappedStores [tg] e X.env = pure none := by rfl)
    (h1 : (assignEach [tg] X.env).map (·.2) = [assign tg X.env] := by rfl) : PS X (.Assign [tg] e pos) (lowS X.K W (dAsg de g)) := psi (ps_asg he hg hs hw h1) fun D σ H ⟨ρ, S, Dh, hσ, hS, h, k⟩ =>
  ⟨ρ, S, _, _, hσ, hS, h, fun d S1 v H1 q t r a => ⟨d, ρ, S1, _, r, hσ.mono t, a, q, k.nx.mono t⟩, k.lx hσ⟩
theorem s_set (i : Nat) {x : Str} {pos' : Pos} (hN : X.N.Nodup) (he : PE X e (low X.K W de)) (hi : X.N[i]? = some x := by rfl) (hx : Loc X.env.scope x := by first | exact Or.inl rfl | exact Or.inr rfl) (hs : swapsWith e (some (.Name x pos')) pos.line X.env = pure false := by rfl)
    (hf : X.fn x = true ∨ X.env.scope.names.lookup x = some .local := by first | exact .inl rfl | exact .inr rfl | assumption) : PS X (.Assign [.Name x pos'] e pos) (lowS X.K W (dAsg de (gN i))) := psi (ps_set hN hi hx he hs hf) fun D σ H ⟨ρ, S, Dh, hσ, hS, h, k⟩ =>
  ⟨ρ, S, _, _, hσ, hS, h, fun d S1 v H1 q t r a => k.nx _ S1 _ H1 q t ((hσ.mono t).set i r) a, k.lx hσ⟩
/-- a, b = x, y (both local names, no cells) -/
def dPar (i j : Nat) (das : DA) : DS := fun D ρ S => das ρ S (fun ds S1 => match ds with | [x, y] => D.nx ((ρ.set i (some x)).set j (some y)) S1 | _ => False) (D.xd ρ)
/-- x op= e -/
def dAug (i : Nat) (rd : RD2) (de : DE) : DS := fun D ρ S => ∃ x, ρ[i]? = some (some x) ∧ de ρ S (fun y S1 => rd x y S1 fun z S2 => D.nx (ρ.set i (some z)) S2) (D.xd ρ)
/-- o.f = e -/
def putFD (f : Str) (d : Dv) : List (Str × Dv) → List (Str × Dv)
  | [] => [(f, d)]
  | p :: r => if p.1 = f then (f, d) :: r else p :: putFD f d r
theorem repF_put {K : PySem.W.Frag} {H : Hp} {f : Str} {v : V} {d : Dv} (rv : Rep K H v d) : ∀ {gs : List (Str × V)} {fs : List (Str × Dv)}, RepF K H gs fs → RepF K H (L2.putF f v gs) (putFD f d fs)
  | _, _, .nil => .cons ⟨rfl, rv⟩ .nil
  | p :: gs, q :: fs, .cons ⟨e, r⟩ t => by
    unfold L2.putF putFD
    by_cases h : q.1 = f
    · rw [if_pos (e.trans h), if_pos h]
      exact .cons ⟨e.trans h, rv⟩ t
    · rw [if_neg (fun z => h (e.symm.trans z)), if_neg h]
      exact .cons ⟨e, r⟩ (repF_put rv t)
def dSetF (cs : List Addr) (f : Str) (dO de : DE) : DS := fun D ρ S => de ρ S (fun d S1 => dO ρ S1 (fun x S2 => match x with
  | .ref a => match S2 a with
    | some (.ins C dx fs) => C ∈ cs ∧ fs.length < 1000 ∧ D.nx ρ (put S2 a (.ins C dx (putFD f d fs)))
    | _ => False
  | _ => False) (D.xd ρ)) (D.xd ρ)
theorem repF_len {K : PySem.W.Frag} {H : Hp} {gs : List (Str × V)} {fs : List (Str × Dv)} (h : RepF K H gs fs) : gs.length = fs.length := by
  induction h with
  | nil => rfl
  | cons _ _ ih => exact congrArg (· + 1) ih
theorem s_setF {cs : List Addr} {f : Str} {o : Expr} {dO : DE} {pos' : Pos} (hc : ∀ C ∈ cs, Cls X.K C ∧ NoAttr X.K C f) (ho : PE X o (low X.K W dO)) (he : PE X e (low X.K W de)) (hs : swapsWith e (some (.Attribute o f pos')) pos.line X.env = pure false := by rfl) :
    PS X (.Assign [.Attribute o f pos'] e pos) (lowS X.K W (dSetF cs f dO de)) := psi (ps_fld ho he hs) fun D σ H ⟨ρ, S, Dh, hσ, hS, h, k⟩ =>
  ⟨ρ, S, _, _, hσ, hS, h, fun d1 S1 v1 H1 q1 t1 r1 a1 => ⟨ρ, S1, _, _, hσ.mono t1, a1, q1, fun x S2 w H2 q2 t2 r2 a2 => by
    dsimp only at q2
    split at q2
    · rename_i a
      split at q2
      · rename_i C dx fs ea
        obtain ⟨hm, hl, q⟩ := q2
        obtain ⟨gs, h1, h2⟩ := a2 _ _ ea
        obtain ⟨c, n⟩ := hc C hm
        have tw : Tk X.K H2 (upd H2 a (.ins C dx (L2.putF f v1 gs))) := Tk.write h1 wr_ins
        exact ⟨a, C, dx, gs, r2.i_ref, h1, c, n, by rw [repF_len h2]; exact hl, k.nx ρ _ σ _ q (t1.trans (t2.trans tw)) (hσ.mono (t1.trans (t2.trans tw))) (a2.write h1 wr_ins (.mins upd_same ((repF_put (r1.mono t2) h2).mono tw)))⟩
      · exact q2.elim
    · exact q2.elim, (k.mono t1).lx (hσ.mono t1)⟩, k.lx hσ⟩
end

/-! loops -/
abbrev DI := Rho → Sto → (List Dv → (Sto → Prop) → Sto → Prop) → XD → Prop
structure ItD (K : PySem.W.Frag) (H0 : Hp) (J : It) (items : List Dv) (stay : Sto → Prop) : Prop where
  go : ∀ i H S x, Tk K H0 H → Abs K H S → stay S → items[i]? = some x → J.go i H ∧ ∀ v H', J.yld i H v H' → Tk K H H' ∧ Rep K H' v x ∧ Abs K H' S
  stop : ∀ H S, Tk K H0 H → Abs K H S → stay S → J.stop items.length H
def LkI (K : PySem.W.Frag) (H : Hp) (Rh : List Dv → (Sto → Prop) → Sto → Prop) (R : It → Hp → Prop) : Prop := ∀ items stay S' J H', Rh items stay S' → Tk K H H' → Abs K H' S' → ItD K H' J items stay → R J H'
theorem LkI.mono {K : PySem.W.Frag} {H H1 : Hp} {Rh : List Dv → (Sto → Prop) → Sto → Prop} {R : It → Hp → Prop} (k : LkI K H Rh R) (t : Tk K H H1) : LkI K H1 Rh R := fun i s S J H' q t' => k i s S J H' q (t.trans t')
def lowI (K : PySem.W.Frag) (W : WX) (di : DI) : TI := fun σ H R => ∃ ρ S Rh Xh, RepS K H σ ρ ∧ Abs K H S ∧ di ρ S Rh Xh ∧ LkI K H Rh R ∧ Lx K W σ H Xh
def ForGo (g : DG) (tb : DS) (D : DEnds) (ρ : Rho) (items : List Dv) (stay : Sto → Prop) (S1 : Sto) : Prop := ∃ Wv : Nat → Rho → Sto → Prop, Wv 0 ρ S1 ∧ (∀ i ρ S, i ≤ items.length → Wv i ρ S → stay S) ∧
  (∀ i x ρ S, items[i]? = some x → Wv i ρ S → g x ρ S fun ρ2 S2 => tb { D with nx := Wv (i + 1), ct := Wv (i + 1), bk := D.nx } ρ2 S2) ∧ ∀ ρ S, Wv items.length ρ S → D.nx ρ S
def dFor (di : DI) (g : DG) (tb : DS) : DS := fun D ρ S => di ρ S (fun items stay S1 => ForGo g tb D ρ items stay S1) (D.xd ρ)
section
variable {X : Cx} {W : WX} {tg iter c : Expr} {body : List Stmt} {di : DI} {g : DG} {tb : DS} {dt : DT} {pos : Pos}
theorem s_for (hp : PassesOwn (model X.prog X.w) X.A X.env X.xe) (hc : X.calm = true) (hi : PI X tg iter (lowI X.K W di)) (hg : PG X tg (lowG X.K g)) (hb : PSs X body (lowS X.K W tb))
    (hs : ∀ x, foldedSetIterable iter X.env x = pure x := by intro _; rfl) : PS X (.For tg iter body [] pos) (lowS X.K W (dFor di g tb)) := psi (ps_for hp hc hi hg hb hs) fun D σ H ⟨ρ, S, Dh, hσ, hS, h, k⟩ => by
  refine ⟨ρ, S, _, _, hσ, hS, h, fun items stay S1 J H1 q t1 a1 it => ?_, k.lx hσ⟩
  obtain ⟨Wv, w0, st, step, done⟩ := q
  refine ⟨fun i m σ' H' => m = items.length - i ∧ i ≤ items.length ∧ Tk X.K H1 H' ∧ ∃ ρ' S', RepS X.K H' σ' ρ' ∧ Abs X.K H' S' ∧ Wv i ρ' S', ⟨_, rfl, Nat.zero_le _, Tk.refl _, ρ, S1, hσ.mono t1, a1, w0⟩, ?_⟩
  rintro i m σ' H' ⟨rfl, hi, t2, ρ', S', hσ', a2, w⟩
  by_cases hlt : i < items.length
  · obtain ⟨g1, g2⟩ := it.go i H' S' items[i] t2 a2 (st i ρ' S' hi w) (by simp [hlt])
    refine .inr ⟨g1, fun σ' H' => Tk X.K H1 H' ∧ ∃ ρ' S', RepS X.K H' σ' ρ' ∧ Abs X.K H' S' ∧ Wv (i + 1) ρ' S', fun σ3 H3 ⟨t3, z⟩ => ⟨items.length - (i + 1), by omega, rfl, hlt, t3, z⟩, fun x H3 y => ?_⟩
    obtain ⟨t3, r3, a3⟩ := g2 x H3 y
    refine ⟨items[i], ρ', S', _, r3, hσ'.mono t3, a3, step i _ ρ' S' (by simp [hlt]) w, fun ρ4 S4 σ4 H4 q4 t4 r4 a4 => ⟨ρ4, S4, _, r4, a4, q4, ((((k.mono t1).mono t2).mono t3).mono t4).loop ?_⟩⟩
    exact fun ρ5 S5 σ5 H5 q5 t5 r5 a5 => ⟨((t2.trans t3).trans t4).trans t5, ρ5, S5, r5, a5, q5⟩
  · have e : i = items.length := by omega
    subst e
    exact .inl ⟨it.stop H' S' t2 a2 (st _ ρ' S' hi w), k.nx ρ' S' σ' H' (done ρ' S' w) (t1.trans t2) hσ' a2⟩
/-! what is walked -/
theorem pii {wi wi' : TI} (h : PI X tg iter wi) (i : ∀ σ H R, wi' σ H R → wi σ H R) : PI X tg iter wi' := ⟨fun pins s σ H R I q => h.run pins s σ H R I (i σ H R q)⟩
/-- the tuple at a, walked -/
theorem it_tup {K : PySem.W.Frag} {H0 : Hp} {a : Addr} {xs : List V} {ds : List Dv} (h : SqT K H0 a xs) (r : RepL K H0 xs ds) : ItD K H0 (Itt K a) ds (fun _ => True) := by
  refine ⟨fun i H S x t ha _ hx => ?_, fun H S t ha _ => ⟨xs, t.t _ _ h, by rw [r.length]; exact Nat.le_refl _⟩⟩
  obtain ⟨v, hv, rv⟩ := r.get hx
  refine ⟨⟨xs, v, t.t _ _ h, hv⟩, fun v' H' ⟨e, y⟩ => ?_⟩
  subst e
  have e2 := y xs (t.t _ _ h)
  rw [hv] at e2
  cases e2
  exact ⟨Tk.refl _, rv.mono t, ha⟩
theorem it_rol {K : PySem.W.Frag} {H0 : Hp} {a : Addr} {xs : List V} {ds : List Dv} (h : CL K H0 a xs) (r : RepL K H0 xs ds) : ItD K H0 (Itl K a) ds (fun _ => True) := by
  refine ⟨fun i H S x t ha _ hx => ?_, fun H S t ha _ => ⟨xs, (t.c _ _ h).sq, by rw [r.length]; exact Nat.le_refl _⟩⟩
  obtain ⟨v, hv, rv⟩ := r.get hx
  refine ⟨⟨xs, v, (t.c _ _ h).sq, hv⟩, fun v' H' ⟨e, y⟩ => ?_⟩
  subst e
  have e2 := y xs (t.c _ _ h).sq
  rw [hv] at e2
  cases e2
  exact ⟨Tk.refl _, rv.mono t, ha⟩
theorem it_lst {K : PySem.W.Frag} {H0 : Hp} {a : Addr} {ds : List Dv} : ItD K H0 (Itl K a) ds (fun S => S a = some (.lst ds)) := by
  refine ⟨fun i H S x t ha st hx => ?_, fun H S t ha st => ?_⟩
  · obtain ⟨xs, h1, h2⟩ := ha a _ st
    obtain ⟨v, hv, rv⟩ := h2.get hx
    refine ⟨⟨xs, v, .inl (.inl h1), hv⟩, fun v' H' ⟨e, y⟩ => ?_⟩
    subst e
    have e2 := y xs (.inl (.inl h1))
    rw [hv] at e2
    cases e2
    exact ⟨Tk.refl _, rv, ha⟩
  · obtain ⟨xs, h1, h2⟩ := ha a _ st
    exact ⟨xs, .inl (.inl h1), by rw [h2.length]; exact Nat.le_refl _⟩
def iTupD (de : DE) : DI := fun ρ S R X => de ρ S (fun d S1 => match d with | .tup ds => R ds (fun _ => True) S1 | _ => False) X
theorem i_tup {e : Expr} {de : DE} (he : PE X e (low X.K W de)) : PI X tg e (lowI X.K W (iTupD de)) := pii (pi_tup he) fun σ H R ⟨ρ, S, Rh, Xh, hσ, hS, h, k, x⟩ =>
  ⟨ρ, S, _, Xh, hσ, hS, h, fun d S1 v H1 q t r a => by
    cases d with
    | tup ds =>
      obtain ⟨p, xs, rfl, hq, rl⟩ := r.i_tup
      exact ⟨p, rfl, ⟨xs, hq⟩, k ds _ S1 _ H1 q t a (it_tup hq rl)⟩
    | _ => exact q.elim, x⟩
/-- over a list, a tuple, a text: by the value -/
def iSeqD (de : DE) : DI := fun ρ S R X => de ρ S (fun d S1 => match d with
  | .tup ds => R ds (fun _ => True) S1
  | .rol ds => R ds (fun _ => True) S1
  | .ref a => match S1 a with | some (.lst ds) => R ds (fun S => S a = some (.lst ds)) S1 | _ => False
  | _ => False) X
theorem i_seq {e : Expr} {de : DE} (he : PE X e (low X.K W de)) : PI X tg e (lowI X.K W (iSeqD de)) := by
  refine ⟨fun pins s σ H R I ⟨ρ, S, Rh, Xh, hσ, hS, h, k, x⟩ => ?_⟩
  have lst : ∀ {a : Addr} {xs : List V} {H1 : Hp} {s1 : Shared}, Inv X pins σ H1 s1 → SqL X.K H1 a xs → R (Itl X.K a) H1 → wpAny (model X.prog X.w) X.A (pyIter (.ref a)) (PIE X pins σ tg R) X.xe s1 := by
    intro a xs H1 s1 I1 hq q
    obtain ⟨its, rv, p, hz⟩ := I1.list hq
    refine wpAny_pyIter_list p.isList ?_
    refine ⟨s1.heap.objs.size, [s1.heap.objs.size], _, _, H1, rfl, I1.kept (t' := s1.toks) fun b o e => Heap.get?_push_of_some _ e, turn_list a _, ⟨_, Heap.get?_push_size _ rfl, rfl, rfl⟩, fun b hb => ?_, q⟩
    have e : b = s1.heap.objs.size := by simpa using hb
    subst e
    exact I1.fpOk (Nat.le_refl _) (I1.hok.fresh (Nat.le_refl _))
  have tup : ∀ {a : Addr} {xs : List V} {H1 : Hp} {s1 : Shared}, Inv X pins σ H1 s1 → SqT X.K H1 a xs → R (Itt X.K a) H1 → wpAny (model X.prog X.w) X.A (pyIter (.ref a)) (PIE X pins σ tg R) X.xe s1 := by
    intro a xs H1 s1 I1 hq q
    obtain ⟨its, rv, p, hz⟩ := I1.tuple hq
    refine wpAny_pyIter_tuple (show s1.heap.IsTuple a its.toArray from p) ?_
    refine ⟨s1.heap.objs.size, [s1.heap.objs.size], _, _, H1, rfl, I1.kept (t' := s1.toks) fun b o e => Heap.get?_push_of_some _ e, turn_tuple a _, ⟨_, Heap.get?_push_size _ rfl, rfl, rfl⟩, fun b hb => ?_, q⟩
    have e : b = s1.heap.objs.size := by simpa using hb
    subst e
    exact I1.fpOk (Nat.le_refl _) (I1.hok.fresh (Nat.le_refl _))
  refine thn (he.run pins s σ H (fun v H1 => ∃ a, v = .ref a ∧ ((∃ xs, SqL X.K H1 a xs ∧ R (Itl X.K a) H1) ∨ (∃ xs, SqT X.K H1 a xs ∧ R (Itt X.K a) H1))) I ⟨ρ, S, _, Xh, hσ, hS, h, fun d S1 v H1 q t r a => ?_, x⟩) fun v s1 ⟨y, H1, I1, r1, a, e, q1⟩ => ?_
  · cases d with
    | tup ds =>
      obtain ⟨p, xs, rfl, hq, rl⟩ := r.i_tup
      exact ⟨p, rfl, .inr ⟨xs, hq, k ds _ S1 _ H1 q t a (it_tup hq rl)⟩⟩
    | rol ds =>
      obtain ⟨p, xs, rfl, hq, rl⟩ := r.i_rol
      exact ⟨p, rfl, .inl ⟨xs, hq.sq, k ds _ S1 _ H1 q t a (it_rol hq rl)⟩⟩
    | ref p =>
      have q : (match S1 p with | some (.lst ds) => Rh ds (fun S => S p = some (.lst ds)) S1 | _ => False) := q
      cases e : S1 p with
      | none => rw [e] at q; exact q.elim
      | some m =>
        rw [e] at q
        cases m with
        | lst ds =>
          obtain ⟨xs, h1, h2⟩ := a p _ e
          exact ⟨p, r.i_ref, .inl ⟨xs, .inl (.inl h1), k ds _ S1 _ H1 q t a it_lst⟩⟩
        | _ => exact q.elim
    | _ => exact q.elim
  · subst e
    cases r1
    rcases q1 with ⟨xs, hq, q⟩ | ⟨xs, hq, q⟩
    · exact lst I1 hq q
    · exact tup I1 hq q
/-- range(n), range(a, b), range(a, b, c) -/
def rangeL (lo : Int) (n : Nat) (c : Int) : List Dv := (List.range n).map fun (i : Nat) => Dv.int (lo + (i : Int) * c)
theorem rangeL_get {lo c : Int} {n i : Nat} {x : Dv} (h : (rangeL lo n c)[i]? = some x) : i < n ∧ x = .int (lo + (i : Int) * c) := by
  unfold rangeL at h
  rw [List.getElem?_map, Option.map_eq_some_iff] at h
  obtain ⟨j, h1, h2⟩ := h
  rw [List.getElem?_eq_some_iff] at h1
  obtain ⟨h3, h4⟩ := h1
  rw [List.getElem_range] at h4
  subst h4
  exact ⟨by simpa using h3, h2.symm⟩
theorem rangeL_len {lo c : Int} {n : Nat} : (rangeL lo n c).length = n := by unfold rangeL; simp
theorem it_rng {K : PySem.W.Frag} {H0 : Hp} {lo : Int} {n : Nat} : ItD K H0 (Itr lo n) (rangeL lo n 1) (fun _ => True) := by
  refine ⟨fun i H S x t ha st hx => ?_, fun H S t ha st => by rw [rangeL_len]; exact Nat.le_refl _⟩
  obtain ⟨h1, rfl⟩ := rangeL_get hx
  refine ⟨h1, fun v' H' ⟨e, y⟩ => ?_⟩
  subst e y
  exact ⟨Tk.refl _, by rw [Int.mul_one]; exact .int _, ha⟩
def iR1 (das : DA) : DI := fun ρ S R X => das ρ S (fun ds S1 => match ds with | [.int j] => R (rangeL 0 j.toNat 1) (fun _ => True) S1 | _ => False) X
def iR2 (das : DA) : DI := fun ρ S R X => das ρ S (fun ds S1 => match ds with | [.int i, .int j] => R (rangeL i (j - i).toNat 1) (fun _ => True) S1 | _ => False) X
def iR3 (das : DA) : DI := fun ρ S R X => das ρ S (fun ds S1 => match ds with | [.int i, .int j, .int c] => ∃ n, RgC i j c n ∧ R (rangeL i n c) (fun _ => True) S1 | _ => False) X
theorem i_r1 {a : Expr} {p : Pos} {das : DA} (hm : X.mg "range" = none) (ha : PA X [a] (lowA X.K W das)) (hg : Gl X "range" := by rfl) (hs : starEach [a] X.env = [(false, eval a X.env)] := by rfl) : PI X tg (.Call (.Name "range" p) [a] [] pos) (lowI X.K W (iR1 das)) :=
  pii (pi_rangeA1 hg hm ha hs) fun σ H R ⟨ρ, S, Rh, Xh, hσ, hS, h, k, x⟩ => ⟨ρ, S, _, Xh, hσ, hS, h, fun ds S1 vs H1 q t r a => by
    match ds, q, r with
    | [.int j], q, r =>
      obtain ⟨v1, r1, rfl, h1, r⟩ := r.cons_i
      rw [r.nil_i, h1.i_int]
      exact ⟨j, rfl, k _ _ S1 _ H1 q t a it_rng⟩, x⟩
def iStrD (de : DE) : DI := fun ρ S R X => de ρ S (fun d S1 => match d with | .str x => R (x.cps.toList.map fun c => Dv.str ⟨#[c]⟩) (fun _ => True) S1 | _ => False) X
theorem i_str {e : Expr} {de : DE} (he : PE X e (low X.K W de)) : PI X tg e (lowI X.K W (iStrD de)) := pii (pi_str he) fun σ H R ⟨ρ, S, Rh, Xh, hσ, hS, h, k, x⟩ =>
  ⟨ρ, S, _, Xh, hσ, hS, h, fun d S1 v H1 q t r a => by
    cases d with
    | str z =>
      refine ⟨z, r.i_str, k _ _ S1 _ H1 q t a ⟨fun i H S x t ha st hx => ?_, fun H S t ha st => by simp [Its]⟩⟩
      rw [List.getElem?_map, Option.map_eq_some_iff] at hx
      obtain ⟨c, h1, rfl⟩ := hx
      rw [Array.getElem?_toList] at h1
      refine ⟨(Array.getElem?_eq_some_iff.mp h1).1, fun v' H' ⟨e, c', h2, e2⟩ => ?_⟩
      subst e e2
      rw [h1] at h2
      cases h2
      exact ⟨Tk.refl _, .str _, ha⟩
    | _ => exact q.elim, x⟩
end

/-! comprehensions -/
/-- a target of names alone, put back behind -/
def NG (K : PySem.W.Frag) (g : TG) (dg : DG) (vs : List Nat) : Prop := ∀ v d σ H ρ S Qh (Q : L2.St → Hp → Prop), Rep K H v d → RepS K H σ ρ → Abs K H S → dg d ρ S Qh → (∀ ρ' S' σ' H', Qh ρ' S' → Tk K H H' → RepS K H' σ' ρ' → Abs K H' S' → L2.wipe σ' vs = L2.wipe σ vs → Q σ' H') → g v σ H Q
theorem wipe_set (σ : L2.St) (i : Nat) (x : Option V) : ∀ vs : List Nat, i ∈ vs → L2.wipe (σ.set i x) vs = L2.wipe σ vs
  | [], h => by cases h
  | v :: vs, h => by
    have wc : ∀ (l : List Nat) (τ : L2.St), L2.wipe (τ.set i x) l = if i ∈ l then L2.wipe τ l else (L2.wipe τ l).set i x := by
      intro l
      induction l with
      | nil => intro τ; simp [L2.wipe]
      | cons w l ih =>
        intro τ
        unfold L2.wipe
        rw [ih τ]
        by_cases hm : i ∈ l
        · simp [hm]
        · by_cases hw : i = w
          · subst hw; simp [hm, List.set_set]
          · simp [hm, hw, List.set_comm _ _ hw]
    rw [wc (v :: vs) σ, if_pos h]
theorem ng_name {K : PySem.W.Frag} {i : Nat} {vs : List Nat} (h : i ∈ vs) : NG K (gName i) (gN i) vs := fun v d σ H ρ S Qh Q r hσ hS q k => k _ S _ H q (Tk.refl H) (hσ.set i r) hS (wipe_set σ i _ vs h)
def dYes : DT := fun _ S Q _ => Q true S
theorem c_nil {X : Cx} {W : WX} : PTs X [] (lowT X.K W dYes) := ⟨fun pins s σ H Q I ⟨ρ, S, Qh, Xh, hσ, hS, h, k, x⟩ => pts_nil.run pins s σ H Q I (k true S H h (Tk.refl H) hS)⟩
theorem c_one {X : Cx} {W : WX} {c : Expr} {dt : DT} (h : PT X c (lowT X.K W dt)) : PTs X [c] (lowT X.K W dt) := pts_one h
def LcGo (g : DG) (tt : DT) (te : DE) (vs : List Nat) (ρ : Rho) (Q : QD) (items : List Dv) (stay : Sto → Prop) (S1 : Sto) : Prop := ∀ p, S1 p = none → ∃ Wv : Nat → Sto → Prop, Wv 0 (put S1 p (.lst [])) ∧ (∀ i S, i ≤ items.length → Wv i S → stay S) ∧
  (∀ i x S, items[i]? = some x → Wv i S → g x (wipeD ρ vs) S fun ρ2 S2 => tt ρ2 S2 (fun b S3 => if b = true then te ρ2 S3 (fun y S4 => ∃ acc, S4 p = some (.lst acc) ∧ acc.length < sizeLine ∧ Wv (i + 1) (put S4 p (.lst (acc ++ [y])))) X0 else Wv (i + 1) S3) X0) ∧
  ∀ S, Wv items.length S → Q (.ref p) S
def dLc (di : DI) (g : DG) (tt : DT) (te : DE) (vs : List Nat) : DE := fun ρ S Q X => di ρ S (fun items stay S1 => LcGo g tt te vs ρ Q items stay S1) X
section
variable {X : Cx} {W : WX} {tg iter elt : Expr} {ifs : List Expr} {di : DI} {g : TG} {dg : DG} {dt : DT} {de : DE} {scope : Scope} {own : List (Str × Nat)} {pos spos : Pos}
theorem low_lc {K : PySem.W.Frag} {vs : List Nat} (ng : NG K g dg vs) : ∀ σ H Q, low K W (dLc di dg dt de vs) σ H Q → tLc (lowI K W di) g (lowT K W0 dt) (low K W0 de) vs σ H Q := fun σ H Q ⟨ρ, S, Qh, Xh, hσ, hS, h, k, x⟩ => by
  refine ⟨ρ, S, _, Xh, hσ, hS, h, fun items stay S1 J H1 q t1 a1 it p hp => ?_, x⟩
  obtain ⟨Wv, w0, st, step, done⟩ := q p (a1.free hp)
  refine ⟨fun i m H' => m = items.length - i ∧ i ≤ items.length ∧ Tk K H1 H' ∧ ∃ S', Abs K H' S' ∧ Wv i S', ⟨_, rfl, Nat.zero_le _, Tk.new hp, _, a1.new hp (.mlst upd_same .nil), w0⟩, ?_⟩
  rintro i m H' ⟨rfl, hi, t2, S', a2, w⟩
  by_cases hlt : i < items.length
  · obtain ⟨g1, g2⟩ := it.go i H' S' items[i] t2 a2 (st i S' hi w) (by simp [hlt])
    refine .inr ⟨g1, fun H' => Tk K H1 H' ∧ ∃ S', Abs K H' S' ∧ Wv (i + 1) S', fun H3 ⟨t3, z⟩ => ⟨items.length - (i + 1), by omega, rfl, hlt, t3, z⟩, fun v H3 y => ?_⟩
    obtain ⟨t3, r3, a3⟩ := g2 v H3 y
    have hw : RepS K H3 (L2.wipe σ vs) (wipeD ρ vs) := (hσ.mono (t1.trans (t2.trans t3))).wipe vs
    refine ng v items[i] (L2.wipe σ vs) H3 (wipeD ρ vs) S' _ _ r3 hw a3 (step i _ S' (by simp [hlt]) w) fun ρ4 S4 σ4 H4 q4 t4 r4 a4 e4 => ⟨e4.trans ?_, ρ4, S4, _, X0, r4, a4, q4, fun b S5 H5 q5 t5 a5 => ?_, lx0⟩
    · clear e4 r4 a4 q4 step st done it k x w hw
      have idem : ∀ (l : List Nat) (τ : L2.St) (j : Nat), j ∈ l → (L2.wipe τ l).set j none = L2.wipe τ l := by
        intro l
        induction l with
        | nil => intro τ j h; cases h
        | cons w l ih =>
          intro τ j h
          unfold L2.wipe
          by_cases hj : j = w
          · subst hj; rw [List.set_set]
          · rw [List.set_comm _ _ (Ne.symm hj), ih τ j ((List.mem_cons.mp h).resolve_left hj)]
      have all : ∀ (l m : List Nat) (τ : L2.St), (∀ j ∈ l, j ∈ m) → L2.wipe (L2.wipe τ m) l = L2.wipe τ m := by
        intro l
        induction l with
        | nil => intro m τ _; rfl
        | cons w l ih =>
          intro m τ h
          show (L2.wipe (L2.wipe τ m) l).set w none = _
          rw [ih m τ fun j hj => h j (List.mem_cons_of_mem _ hj)]
          exact idem m τ w (h w List.mem_cons_self)
      exact all vs vs σ fun _ h => h
    · cases b with
      | true =>
        refine iteT ⟨ρ4, S5, _, X0, r4.mono t5, a5, q5, fun d S6 v6 H6 q6 t6 r6 a6 => ?_, lx0⟩
        obtain ⟨acc, e6, l6, w6⟩ := q6
        obtain ⟨xs, h6, rl⟩ := a6 p _ e6
        have tw : Tk K H6 (upd H6 p (.lst (xs ++ [v6]))) := Tk.write h6 wr_lst
        refine ⟨xs, h6, by rw [rl.length]; exact l6, (((t2.trans t3).trans t4).trans t5).trans (t6.trans tw), _, a6.write h6 wr_lst (.mlst upd_same ((rl.mono tw).append (.cons (r6.mono tw) .nil))), w6⟩
      | false => exact iteF ⟨((t2.trans t3).trans t4).trans t5, S5, a5, q5⟩
  · have e : i = items.length := by omega
    subst e
    exact .inl ⟨it.stop H' S' t2 a2 (st _ S' hi w), k _ S' _ H' (done S' w) (t1.trans t2) (.ref p) a2⟩
theorem d_lc (hc : X.calm = true) (hN : X.N.Nodup) (hi : PI X tg iter (lowI X.K W di)) (ok : BlkOk X.N X.env.scope scope own)
    (hg : ∀ (s : Shared) (H : Hp) (C : Addr) (cl : List (Str × Addr)) (fp : List Addr), PG (X.blk s H scope (compEnvC scope cl C X.env) fp) tg g) (ng : NG X.K g dg (own.map (·.2)))
    (ht : ∀ (s : Shared) (H : Hp) (C : Addr) (cl : List (Str × Addr)) (fp : List Addr), PTs (X.blk s H scope (compEnvC scope cl C X.env) fp) ifs (lowT X.K W0 dt))
    (he : ∀ (s : Shared) (H : Hp) (C : Addr) (cl : List (Str × Addr)) (fp : List Addr), PE (X.blk s H scope (compEnvC scope cl C X.env) fp) elt (low X.K W0 de)) (hs : ∀ x, foldedSetIterable iter X.env x = pure x := by intro _; rfl) :
    PE X (.ListComp elt [⟨tg, iter, ifs, 0⟩] scope pos) (low X.K W (dLc di dg dt de (own.map (·.2)))) := pei (pe_lc hc hN hi ok hg ht he hs) (low_lc ng)
end
end VD

namespace VD
open PySem PySem.Spec PyProof.Rows L2

/-! ### operators -/
section
variable {K : PySem.W.Frag} {X : Cx}
/-- the items of a list or a tuple, and a store in which the list may be forgotten -/
def seqOf (d : Dv) (S : Sto) (R : List Dv → Prop) : Prop := match d with
  | .tup xs => R xs
  | .rol xs => R xs
  | .ref a => match S a with
    | some (.lst xs) => R xs
    | _ => False
  | _ => False
def lstOf (d : Dv) (S : Sto) (R : List Dv → Prop) : Prop := match d with
  | .rol xs => R xs
  | .ref a => match S a with
    | some (.lst xs) => R xs
    | _ => False
  | _ => False
theorem lstOf_c {H : Hp} {S : Sto} {d : Dv} {v : V} {R : List Dv → Prop} (r : Rep K H v d) (hS : Abs K H S) (h : lstOf d S R) : ∃ a us xs, v = .ref a ∧ LC K H a us ∧ RepL K H us xs ∧ R xs := by
  unfold lstOf at h
  split at h
  · obtain ⟨a, us, rfl, ha, la⟩ := r.i_rol
    exact ⟨a, us, _, rfl, .inr ha, la, h⟩
  · rename_i a
    split at h
    · rename_i xs ea
      obtain ⟨us, h1, la⟩ := hS _ _ ea
      exact ⟨a, us, xs, r.i_ref, .inl h1, la, h⟩
    · exact h.elim
  · exact h.elim
theorem lstOf_i {H : Hp} {S : Sto} {d : Dv} {v : V} {R : List Dv → Prop} (r : Rep K H v d) (hS : Abs K H S) (h : lstOf d S R) : ∃ a us xs, v = .ref a ∧ SqL K H a us ∧ RepL K H us xs ∧ R xs := by
  obtain ⟨a, us, xs, e, l, rl, z⟩ := lstOf_c r hS h
  exact ⟨a, us, xs, e, l.sq, rl, z⟩
theorem seqOf_i {H : Hp} {S : Sto} {d : Dv} {v : V} {R : List Dv → Prop} (r : Rep K H v d) (hS : Abs K H S) (h : seqOf d S R) : ∃ a us xs, v = .ref a ∧ (SqL K H a us ∨ SqT K H a us) ∧ RepL K H us xs ∧ R xs := by
  unfold seqOf at h
  split at h
  · obtain ⟨a, us, rfl, ha, la⟩ := r.i_tup
    exact ⟨a, us, _, rfl, .inr ha, la, h⟩
  · obtain ⟨a, us, rfl, ha, la⟩ := r.i_rol
    exact ⟨a, us, _, rfl, .inl ha.sq, la, h⟩
  · rename_i a
    split at h
    · rename_i xs ea
      obtain ⟨us, h1, la⟩ := hS _ _ ea
      exact ⟨a, us, xs, r.i_ref, .inl (.inl (.inl h1)), la, h⟩
    · exact h.elim
  · exact h.elim
def rdAdd : RD2 := fun x y S Q => match x, y with
  | .int i, .int j => Q (.int (i + j)) S
  | .tup xs, .tup ys => xs.length + ys.length ≤ sizeLine ∧ Q (.tup (xs ++ ys)) S
  | .str a, .str b => a.length + b.length ≤ sizeLine ∧ Q (.str (a ++ b)) S
  | x, y => lstOf x S fun xs => lstOf y S fun ys => xs.length + ys.length ≤ sizeLine ∧ ∀ p, S p = none → Q (.ref p) (put S p (.lst (xs ++ ys)))
abbrev rAddA (K : PySem.W.Frag) : R2 := fun x y H Q => rI0 (fun i j => .int (i + j)) x y H Q ∨ rCatA K x y H Q ∨ (∃ i j, x = .str i ∧ y = .str j ∧ i.length + j.length ≤ sizeLine ∧ Q (.str (i ++ j)) H) ∨ rCatC K x y H Q
theorem op_addA : OpR X (binaryOp .Add) (rAddA X.K) := op_add.or (op_catA.or (op_add_str.or op_catC))
theorem l_add : LR2 K (rAddA K) rdAdd := by
  intro x y H dx dy S Qh Q rx ry hS h k
  unfold rdAdd at h
  split at h
  · exact .inl ⟨_, _, rx.i_int, ry.i_int, k.now h (.int _) hS⟩
  · obtain ⟨a, xs, rfl, ha, la⟩ := rx.i_tup
    obtain ⟨b, ys, rfl, hb, lb⟩ := ry.i_tup
    obtain ⟨hl, q⟩ := h
    refine .inr (.inl ⟨a, b, xs, ys, rfl, rfl, ha, hb, by rw [la.length, lb.length]; exact hl, fun e => ?_, fun e e' => ?_, fun e e' p hp => ?_⟩)
    · rw [la.nil_iff.mp e] at q
      exact k.now q (.tup hb lb) hS
    · rw [lb.nil_iff.mp e', List.append_nil] at q
      exact k.now q (.tup ha la) hS
    · exact k _ _ _ _ q (Tk.new hp) (.tup (.inl (.inl upd_same)) ((la.mono (Tk.new hp)).append (lb.mono (Tk.new hp)))) (hS.tup hp)
  · exact .inr (.inr (.inl ⟨_, _, rx.i_str, ry.i_str, h.1, k.now h.2 (.str _) hS⟩))
  · obtain ⟨a, us, xs, rfl, l1, r1, h⟩ := lstOf_c rx hS h
    obtain ⟨b, vs, ys, rfl, l2, r2, h⟩ := lstOf_c ry hS h
    exact .inr (.inr (.inr ⟨a, b, us, vs, rfl, rfl, l1, l2, by rw [r1.length, r2.length]; exact h.1, fun p hp => k _ _ _ _ (h.2 p (hS.free hp)) (Tk.new hp) (.ref p) (hS.new hp (.mlst upd_same ((r1.mono (Tk.new hp)).append (r2.mono (Tk.new hp)))))⟩))
def rdSub : RD2 := fun x y S Q => match x, y with
  | .int i, .int j => Q (.int (i - j)) S
  | _, _ => False
theorem l_sub : LR2 K (rI0 fun i j => .int (i - j)) rdSub := by
  intro x y H dx dy S Qh Q rx ry hS h k
  unfold rdSub at h
  split at h
  · exact ⟨_, _, rx.i_int, ry.i_int, k.now h (.int _) hS⟩
  · exact h.elim
/-- a product fits -/
theorem mulok_l {i j : Int} (h1 : -(2 ^ 64) < i) (h2 : i < 2 ^ 64) : IntMulOk i j := .of_left (intBits_le_64 h1 h2)
theorem mulok_r {i j : Int} (h1 : -(2 ^ 64) < j) (h2 : j < 2 ^ 64) : IntMulOk i j := .of_right (intBits_le_64 h1 h2)
theorem op_mulK : OpR X (binaryOp .Mult) (rI IntMulOk fun i j => .int (i * j)) := opI fun _ _ _ _ _ _ _ hc q => mul_int q hc
/-- the same tuple -/
theorem tuple_mulS (l : Addr) (items : Array Value) (n : Nat) (dd : Option Addr) (sl : Array (Option Value)) (x : Int) (u : Tok) (c0 : (decide (x < -(2 ^ 63)) || decide (x ≥ 2 ^ 63)) = false) (c1 : (items.isEmpty || x == 1) = true) :
    Meets (Builtin.«tuple.__mul__» ⟨[.ref l, .int x u], []⟩) (fun _ R s => s.heap.get? l = some { cls := .type "tuple", dict := dd, data := .seq items n, slots := sl } ∧ R (.ok (.ret (Value.ref l))) s) :=
  .of_wp fun prog w A R s h => by
    obtain ⟨hp, g, d, tk, os⟩ := s
    obtain ⟨hl, h⟩ := h
    have f1 := AutoSeq1.idx_int
    wp_walk using wpAny_loadPart' hl
    repeat (first
      | (refine wpAny_ite_false (decide_eq_false (by rw [c0]; exact Bool.false_ne_true)) ?_; wp_walk using wpAny_loadPart' hl)
      | (refine wpAny_ite_true (decide_eq_true c1) ?_; wp_walk using wpAny_loadPart' hl))
    exact ⟨_, rfl, h⟩
def rRepS (K : PySem.W.Frag) : R2 := fun x y H Q => ∃ l k xs, x = .ref l ∧ y = .int k ∧ SqT K H l xs ∧ (xs = [] ∨ k = 1) ∧ 1 ≤ k ∧ k ≤ 1000 ∧ Q (.ref l) H
theorem op_repS : OpR X (binaryOp .Mult) (rRepS X.K) := by
  intro pins s σ H x y v u Q I rx ry h
  obtain ⟨l, k, xs, rfl, rfl, hT, hne, h1, h2, q⟩ := h
  cases rx
  obtain ⟨t, rfl⟩ := ry
  obtain ⟨its, r, ⟨⟨cls, dd, data, sl⟩, ho, hc, n, hd⟩, hs⟩ := I.tuple hT
  simp only at hc hd
  subst hc hd
  have c0 : (decide (k < -(2 ^ 63)) || decide (k ≥ 2 ^ 63)) = false := by
    rw [decide_eq_false (by omega), decide_eq_false (by omega)] <;> rfl
  have c1 : (its.toArray.isEmpty || k == 1) = true := by
    rcases hne with e | e
    · subst e; cases r; rfl
    · subst e; simp
  refine wpAny_binaryOp_repeat_ref (T := "tuple") (U := "int") (by decide) ⟨_, ho, rfl⟩ (fun s' => typeIs_int s' k t) noFill_tuple_mul F.fills_int_mul F.slot_int_rmul repeat_tuple F.slot_int_index.lookup
    (call_meets F.slot_int_rmul (typeIs_int s k t) F.entry_int_rmul (F.args_int_rmul_2 _ _) (int_rmul_tuple k t l its.toArray n dd sl)
      ⟨ho, rfl, ⟨_, ho, rfl⟩, call_meets F.slot_tuple_mul ⟨_, ho, rfl⟩ F.entry_tuple_mul (F.args_tuple_mul_2 _ _) (tuple_mulS l its.toArray n dd sl k t c0 c1) ⟨ho, ?_⟩⟩)
  exact ⟨.ref l, H, I, rfl, q⟩
def rdMul : RD2 := fun x y S Q => match x, y with
  | .int i, .int j => IntMulOk i j ∧ Q (.int (i * j)) S
  | .tup xs, .int k => (1 ≤ k ∧ k ≤ 1000 ∧ xs.length ≤ 1000) ∧ Q (.tup (List.replicate k.toNat xs).flatten) S
  | .ref a, .int k => match S a with
    | some (.lst xs) => (-(2 ^ 63) ≤ k ∧ k < 2 ^ 63 ∧ xs.length * k.toNat ≤ sizeLine) ∧ ∀ p, S p = none → Q (.ref p) (put S p (.lst (List.replicate k.toNat xs).flatten))
    | _ => False
  | _, _ => False
abbrev rMulA (K : PySem.W.Frag) : R2 := fun x y H Q => rI IntMulOk (fun i j => .int (i * j)) x y H Q ∨ rRepS K x y H Q ∨ rRepT K x y H Q ∨ rRep x y H Q
theorem op_mulA : OpR X (binaryOp .Mult) (rMulA X.K) := op_mulK.or (op_repS.or (op_repT.or op_rep))
theorem flat_nil {α : Type} : ∀ k : Nat, (List.replicate k ([] : List α)).flatten = []
  | 0 => rfl
  | k + 1 => by rw [List.replicate_succ, List.flatten_cons, flat_nil k]; rfl
theorem l_mul : LR2 K (rMulA K) rdMul := by
  intro x y H dx dy S Qh Q rx ry hS h k
  unfold rdMul at h
  split at h
  · exact .inl ⟨_, _, rx.i_int, ry.i_int, h.1, k.now h.2 (.int _) hS⟩
  · rename_i xs m
    obtain ⟨a, us, rfl, ha, la⟩ := rx.i_tup
    obtain ⟨⟨h1, h2, h3⟩, q⟩ := h
    by_cases e : us = [] ∨ m = 1
    · refine .inr (.inl ⟨a, m, us, rfl, ry.i_int, ha, e, h1, h2, ?_⟩)
      have e2 : (List.replicate m.toNat xs).flatten = xs := by
        rcases e with e | e
        · rw [la.nil_iff.mp e, flat_nil]
        · subst e; simp
      rw [e2] at q
      exact k.now q (.tup ha la) hS
    · have e1 : us ≠ [] := fun z => e (.inl z)
      have e2 : m ≠ 1 := fun z => e (.inr z)
      refine .inr (.inr (.inl ⟨a, m, us, rfl, ry.i_int, ha, e1, by omega, h2, by rw [la.length]; exact h3, fun p hp => ?_⟩))
      exact k _ _ _ _ q (Tk.new hp) (.tup (.inl (.inl upd_same)) ((la.mono (Tk.new hp)).rep _)) (hS.tup hp)
  · rename_i a m
    split at h
    · rename_i xs ea
      obtain ⟨us, h1, l1⟩ := hS _ _ ea
      obtain ⟨⟨b1, b2, b3⟩, q⟩ := h
      exact .inr (.inr (.inr ⟨a, m, us, rx.i_ref, ry.i_int, h1, b1, b2, by rw [l1.length]; exact b3, fun p hp => k _ _ _ _ (q p (hS.free hp)) (Tk.new hp) (.ref p) (hS.new hp (.mlst upd_same ((l1.mono (Tk.new hp)).rep _)))⟩))
    · exact h.elim
  · exact h.elim
/-- // and % by a positive number -/
def CDivP (i j : Int) : Prop := 0 < j ∧ j.natAbs.log2 < 9000
theorem op_divP : OpR X (binaryOp .FloorDiv) (rI CDivP fun i j => .int (i / j)) := opI fun i j _ _ _ _ _ hc q => by
  have h1 : (0 : Int) < j := hc.1
  exact floordiv_int (by omega) (by rw [Int.fdiv_eq_ediv_of_nonneg i (by omega)]; exact q) (.inl (PyProof.noPylong_of_log2 hc.2))
theorem divp {i j : Int} (b : Nat) (h : 0 < j) (hb : j.natAbs < 2 ^ b) (h0 : 0 < b := by decide) (h9 : b ≤ 9000 := by decide) : CDivP i j := ⟨h, Nat.lt_of_lt_of_le (PySem.Flt.log2_lt_of h0 hb) h9⟩
def rdDiv : RD2 := fun x y S Q => match x, y with
  | .int i, .int j => CDivP i j ∧ Q (.int (i / j)) S
  | _, _ => False
theorem l_div : LR2 K (rI CDivP fun i j => .int (i / j)) rdDiv := by
  intro x y H dx dy S Qh Q rx ry hS h k
  unfold rdDiv at h
  split at h
  · exact ⟨_, _, rx.i_int, ry.i_int, h.1, k.now h.2 (.int _) hS⟩
  · exact h.elim
def rdMod : RD2 := fun x y S Q => match x, y with
  | .int i, .int j => 0 < j ∧ Q (.int (i % j)) S
  | _, _ => False
theorem l_mod : LR2 K (rI (fun _ j => 0 < j) fun i j => .int (i % j)) rdMod := by
  intro x y H dx dy S Qh Q rx ry hS h k
  unfold rdMod at h
  split at h
  · exact ⟨_, _, rx.i_int, ry.i_int, h.1, k.now h.2 (.int _) hS⟩
  · exact h.elim
def rdPow : RD2 := fun x y S Q => match x, y with
  | .int i, .int j => CPow i j ∧ Q (.int (i ^ j.toNat)) S
  | _, _ => False
theorem l_pow : LR2 K (rI CPow fun i j => .int (i ^ j.toNat)) rdPow := by
  intro x y H dx dy S Qh Q rx ry hS h k
  unfold rdPow at h
  split at h
  · exact ⟨_, _, rx.i_int, ry.i_int, h.1, k.now h.2 (.int _) hS⟩
  · exact h.elim
/-- + in place, of ints -/
def rdIAdd : RD2 := fun x y S Q => match x, y with
  | .int i, .int j => Q (.int (i + j)) S
  | _, _ => False
/-! one-place -/
variable {W : WX} {a b e : Expr} {da : DE} {pos : Pos}
def dNeg (da : DE) : DE := fun ρ S Q X => da ρ S (fun x S1 => match x with | .int i => Q (.int (-i)) S1 | _ => False) X
theorem d_neg (ha : PE X a (low X.K W da)) : PE X (.UnaryOp .USub a pos) (low X.K W (dNeg da)) := pei (pe_un un_neg ha) fun σ H Q ⟨ρ, S, Qh, Xh, hσ, hS, h, k, x⟩ =>
  ⟨ρ, S, _, Xh, hσ, hS, h, fun d1 S1 v1 H1 q1 t1 r1 a1 => by
    cases d1 with
    | int i => exact ⟨i, r1.i_int, (k.mono t1).now q1 (.int _) a1⟩
    | _ => exact q1.elim, x⟩

/-! ### comparisons -/
mutual
def py : Dv → PyData
  | .non => .none
  | .bl b => .bool b
  | .int i => .int i
  | .str x => .str x
  | .tup xs => .tuple (pyL xs)
  | .rol xs => .list (pyL xs)
  | .ty _ => .none
  | .ref _ => .none
  | .rod _ _ => .none
  | .obj _ _ _ => .none
def pyL : List Dv → List PyData
  | [] => []
  | x :: xs => py x :: pyL xs
/-- data all through -/
def isD : Dv → Bool
  | .non | .bl _ | .int _ | .str _ => true
  | .tup xs | .rol xs => isDL xs
  | .ty _ | .ref _ | .rod _ _ | .obj _ _ _ => false
def isDL : List Dv → Bool
  | [] => true
  | x :: xs => isD x && isDL xs
end
mutual
theorem Rep.dp {H : Hp} : ∀ (d : Dv) {v : V}, Rep K H v d → isD d = true → Dp K H v (py d)
  | .non, _, h, _ => by rw [h.i_non]; exact .non
  | .bl b, _, h, _ => by rw [h.i_bl]; exact .bl b
  | .int b, _, h, _ => by rw [h.i_int]; exact .int b
  | .str b, _, h, _ => by rw [h.i_str]; exact .str b
  | .tup xs, _, h, e => by
    obtain ⟨p, us, rfl, hs, l⟩ := h.i_tup
    exact .tup hs (RepL.dp xs l (by simpa [isD] using e))
  | .rol xs, _, h, e => by
    obtain ⟨p, us, rfl, hs, l⟩ := h.i_rol
    exact .lst hs.sq (RepL.dp xs l (by simpa [isD] using e))
  | .ty _, _, _, e => by cases e
  | .ref _, _, _, e => by cases e
  | .rod _ _, _, _, e => by cases e
  | .obj _ _ _, _, _, e => by cases e
theorem RepL.dp {H : Hp} : ∀ (ds : List Dv) {vs : List V}, RepL K H vs ds → isDL ds = true → DpAll K H vs (pyL ds)
  | [], _, h, _ => by rw [h.nil_i]; exact .nil
  | d :: ds, _, h, e => by
    obtain ⟨v, r, rfl, h1, h2⟩ := h.cons_i
    simp only [isDL, Bool.and_eq_true] at e
    exact .cons (Rep.dp d h1 e.1) (RepL.dp ds h2 e.2)
end
def shp (d : Dv) : Bool := isD d && SeqAt.shaped (py d)
def eqvD (x y : Dv) : Bool := PyData.eqv (py x) (py y)
def eqvL (x y : List Dv) : Bool := PyData.eqvAll (pyL x) (pyL y)
/-- a list at its address as data -/
def valOf (d : Dv) (S : Sto) : Dv := match d with
  | .ref a => match S a with
    | some (.lst xs) => .rol xs
    | _ => d
  | _ => d
def rdEqG (f : Bool → Bool) : RD2 := fun x y S Q => match x, y with
  | .int i, .int j => Q (.bl (f (decide (i = j)))) S
  | .bl i, .bl j => Q (.bl (f (decide (i = j)))) S
  | .str i, .str j => Q (.bl (f (decide (i = j)))) S
  | x, y => (shp (valOf x S) = true ∧ shp (valOf y S) = true) ∧ Q (.bl (f (eqvD (valOf x S) (valOf y S)))) S
abbrev rdEq := rdEqG fun b => b
abbrev rdNe := rdEqG fun b => !b
theorem dec_congr {p q : Prop} [Decidable p] [Decidable q] (h : p ↔ q) : decide p = decide q := by
  by_cases hp : p
  · rw [decide_eq_true hp, decide_eq_true (h.mp hp)]
  · rw [decide_eq_false hp, decide_eq_false fun z => hp (h.mpr z)]
/-- == (f the identity), != (f not) -/
def rEqG (K : PySem.W.Frag) (f : Bool → Bool) : R2 := fun x y H Q => (scal x y = true ∧ Q (.bl (f (decide (x = y)))) H) ∨ ∃ d e, Dp K H x d ∧ Dp K H y e ∧ SeqAt.shaped d = true ∧ SeqAt.shaped e = true ∧ Q (.bl (f (PyData.eqv d e))) H
theorem op_eqA (hu : X.A.units + 64 < cLine) : OpR X (compareOp .Eq) (rEqG X.K fun b => b) := op_eq.or (op_eqD hu)
theorem op_neA (hu : X.A.units + 64 < cLine) : OpR X (compareOp .NotEq) (rEqG X.K fun b => !b) := op_ne.or (op_neD hu)
theorem shp_i {d : Dv} (h : shp d = true) : isD d = true ∧ SeqAt.shaped (py d) = true := by
  unfold shp at h
  rwa [Bool.and_eq_true] at h
theorem l_eq {f : Bool → Bool} : LR2 K (rEqG K f) (rdEqG f) := by
  intro x y H dx dy S Qh Q rx ry hS h k
  unfold rdEqG at h
  split at h
  · rw [rx.i_int, ry.i_int]
    refine .inl ⟨rfl, ?_⟩
    rw [dec_congr (q := _ = _) ⟨V.int.inj, congrArg V.int⟩]
    exact k.now h (.bl _) hS
  · rw [rx.i_bl, ry.i_bl]
    refine .inl ⟨rfl, ?_⟩
    rw [dec_congr (q := _ = _) ⟨V.bl.inj, congrArg V.bl⟩]
    exact k.now h (.bl _) hS
  · rw [rx.i_str, ry.i_str]
    refine .inl ⟨rfl, ?_⟩
    rw [dec_congr (q := _ = _) ⟨V.str.inj, congrArg V.str⟩]
    exact k.now h (.bl _) hS
  · obtain ⟨⟨s1, s2⟩, q⟩ := h
    have z : ∀ {v : V} {d : Dv}, Rep K H v d → shp (valOf d S) = true → Dp K H v (py (valOf d S)) := by
      intro v d r s
      by_cases hv : ∃ a xs, d = .ref a ∧ S a = some (.lst xs)
      · obtain ⟨a, xs, rfl, e⟩ := hv
        have e2 : valOf (.ref a) S = .rol xs := by unfold valOf; dsimp only; rw [e]
        rw [e2] at s ⊢
        obtain ⟨us, h1, l1⟩ := hS _ _ e
        rw [r.i_ref]
        have i1 := (shp_i s).1
        exact .lst (.inl (.inl h1)) (RepL.dp _ l1 (by simpa [isD] using i1))
      · have e2 : valOf d S = d := by
          unfold valOf
          split
          · rename_i a
            split
            · rename_i xs e; exact absurd ⟨a, xs, rfl, e⟩ hv
            · rfl
          · rfl
        rw [e2] at s ⊢
        exact Rep.dp _ r (shp_i s).1
    exact .inr ⟨_, _, z rx s1, z ry s2, (shp_i s1).2, (shp_i s2).2, k.now q (.bl _) hS⟩
def rdCmp (p : Int → Int → Bool) : RD2 := fun x y S Q => match x, y with
  | .int i, .int j => Q (.bl (p i j)) S
  | _, _ => False
abbrev rdLt := rdCmp fun i j => decide (i < j)
abbrev rdLe := rdCmp fun i j => decide (i ≤ j)
abbrev rdGt := rdCmp fun i j => decide (j < i)
abbrev rdGe := rdCmp fun i j => decide (j ≤ i)
theorem l_cmp {p : Int → Int → Bool} : LR2 K (rI0 fun i j => .bl (p i j)) (rdCmp p) := by
  intro x y H dx dy S Qh Q rx ry hS h k
  unfold rdCmp at h
  split at h
  · exact ⟨_, _, rx.i_int, ry.i_int, k.now h (.bl _) hS⟩
  · exact h.elim
/-- is None, is not None -/
def isNon : Dv → Bool
  | .non => true
  | _ => false
def rdIsN (f : Bool → Bool) : RD2 := fun x y S Q => match y with
  | .non => Q (.bl (f (isNon x))) S
  | _ => False
theorem isNon_v {H : Hp} {x : V} {d : Dv} (r : Rep K H x d) : decide (x = .non) = isNon d := by
  cases r <;> rfl
theorem l_isN : LR2 K (fun x y H Q => y = .non ∧ Q (.bl (decide (x = .non))) H) (rdIsN fun b => b) := by
  intro x y H dx dy S Qh Q rx ry hS h k
  unfold rdIsN at h
  split at h
  · exact ⟨ry.i_non, by rw [isNon_v rx]; exact k.now h (.bl _) hS⟩
  · exact h.elim
end
/-! ### displays, subscripts, slices -/
section
variable {K : PySem.W.Frag} {X : Cx} {W : WX} {a b e : Expr} {es : List Expr} {da db : DE} {das : DA} {pos : Pos}
def dTup (das : DA) : DE := fun ρ S Q X => das ρ S (fun ds S1 => ds.length ≤ sizeLine ∧ Q (.tup ds) S1) X
theorem d_tup {x1} (h : PA X es (lowA X.K W das)) : PE X (.Tuple es x1 pos) (low X.K W (dTup das)) := pei (pe_tup h) fun σ H Q ⟨ρ, S, Qh, Xh, hσ, hS, h, k, x⟩ =>
  ⟨ρ, S, _, Xh, hσ, hS, h, fun ds S1 vs H1 q1 t1 r1 a1 => ⟨by rw [r1.length]; exact q1.1, fun p hp => k _ _ _ _ q1.2 (t1.trans (Tk.new hp)) (.tup (.inl (.inl upd_same)) (r1.mono (Tk.new hp))) (a1.tup hp)⟩, x⟩
def dLst (das : DA) : DE := fun ρ S Q X => das ρ S (fun ds S1 => ds.length ≤ sizeLine ∧ ∀ p, S1 p = none → Q (.ref p) (put S1 p (.lst ds))) X
theorem d_lst (h : PA X es (lowA X.K W das)) : PE X (.List es pos) (low X.K W (dLst das)) := pei (pe_lst h) fun σ H Q ⟨ρ, S, Qh, Xh, hσ, hS, h, k, x⟩ =>
  ⟨ρ, S, _, Xh, hσ, hS, h, fun ds S1 vs H1 q1 t1 r1 a1 => ⟨by rw [r1.length]; exact q1.1, fun p hp => k _ _ _ _ (q1.2 p (a1.free hp)) (t1.trans (Tk.new hp)) (.ref p) (a1.new hp (.mlst upd_same (r1.mono (Tk.new hp))))⟩, x⟩
theorem atI_len {α β : Type} {xs : List α} {ys : List β} {i : Int} {y : β} (hl : xs.length = ys.length) (h : atI ys i = some y) (P : β → α → Prop) (hp : ∀ (j : Nat) y, ys[j]? = some y → ∃ x, xs[j]? = some x ∧ P y x) : ∃ x, atI xs i = some x ∧ P y x := by
  unfold atI at h ⊢
  rw [hl]
  cases e : ixN ys.length i with
  | none => rw [e] at h; cases h
  | some j =>
    rw [e] at h
    exact hp j y h
def rdIx : RD2 := fun x y S Q => match x, y with
  | .tup xs, .int i => ∃ d, atI xs i = some d ∧ Q d S
  | .rol xs, .int i => ∃ d, atI xs i = some d ∧ Q d S
  | .ref a, .int i => match S a with
    | some (.lst xs) => ∃ d, atI xs i = some d ∧ Q d S
    | _ => False
  | .str z, .int i => z.length ≤ sizeLine ∧ ∃ c, atI z.cps.toList i = some c ∧ Q (.str ⟨#[c]⟩) S
  | _, _ => False
theorem l_ix : LR2 K (rIx K) rdIx := by
  intro x y H dx dy S Qh Q rx ry hS h k
  unfold rdIx at h
  split at h
  · obtain ⟨a, us, rfl, ha, la⟩ := rx.i_tup
    obtain ⟨d, hd, q⟩ := h
    obtain ⟨v, hv, rv⟩ := atI_len la.length hd (fun d v => Rep K H v d) fun j y hy => la.get hy
    exact .inr (.inl ⟨a, us, _, v, rfl, ry.i_int, ha, hv, k.now q rv hS⟩)
  · obtain ⟨a, us, rfl, ha, la⟩ := rx.i_rol
    obtain ⟨d, hd, q⟩ := h
    obtain ⟨v, hv, rv⟩ := atI_len la.length hd (fun d v => Rep K H v d) fun j y hy => la.get hy
    exact .inl ⟨a, us, _, v, rfl, ry.i_int, ha.sq, hv, k.now q rv hS⟩
  · rename_i a i
    split at h
    · rename_i xs ea
      obtain ⟨us, h1, la⟩ := hS _ _ ea
      obtain ⟨d, hd, q⟩ := h
      obtain ⟨v, hv, rv⟩ := atI_len la.length hd (fun d v => Rep K H v d) fun j y hy => la.get hy
      exact .inl ⟨a, us, _, v, rx.i_ref, ry.i_int, .inl (.inl h1), hv, k.now q rv hS⟩
    · exact h.elim
  · obtain ⟨hz, c, hc, q⟩ := h
    exact .inr (.inr ⟨_, _, c, rx.i_str, ry.i_int, hz, hc, k.now q (.str _) hS⟩)
  · exact h.elim
theorem d_ix (ha : PE X a (low X.K W da)) (hb : PE X b (low X.K W db)) (hs : PlainIx b := by intro _ _; rfl) : PE X (.Subscript a b pos) (low X.K W (dOp rdIx da db)) := pei (pe_ix ix_seq ha hb hs) (low_op l_ix)
/-- xs[i] = v -/
def rdSet : RDS := fun o i d S Q => match o, i with
  | .ref a, .int k => match S a with
    | some (.lst xs) => ∃ j, ixN xs.length k = some j ∧ Q (put S a (.lst (xs.set j d)))
    | _ => False
  | _, _ => False
theorem l_set : LRS K rSetL rdSet := by
  intro o i v H dO dI d S Qh Q rO rI r hS h k
  unfold rdSet at h
  split at h
  · rename_i a m
    split at h
    · rename_i xs ea
      obtain ⟨us, h1, la⟩ := hS _ _ ea
      obtain ⟨j, hj, q⟩ := h
      have tw : Tk K H (upd H a (.lst (us.set j v))) := Tk.write h1 wr_lst
      exact ⟨a, us, m, j, rO.i_ref, rI.i_int, h1, by rw [la.length]; exact hj, k _ _ q tw (hS.write h1 wr_lst (.mlst upd_same ((la.mono tw).set j (r.mono tw))))⟩
    · exact h.elim
  · exact h.elim
/-! slices -/
variable {dl dh : DO}
def oNone : DO := fun _ S Q _ => Q none S
def oSome (de : DE) : DO := fun ρ S Q X => de ρ S (fun d S1 => match d with | .int i => Q (some i) S1 | _ => False) X
theorem o_none : PO X none (lowO X.K W oNone) := poi po_none fun σ H Q ⟨ρ, S, Qh, Xh, hσ, hS, h, k, x⟩ => k _ S H h (Tk.refl H) hS
theorem o_some {de : DE} (h : PE X e (low X.K W de)) : PO X (some e) (lowO X.K W (oSome de)) := poi (po_some h) fun σ H Q ⟨ρ, S, Qh, Xh, hσ, hS, h, k, x⟩ =>
  ⟨ρ, S, _, Xh, hσ, hS, h, fun d S1 v H1 q t r a => by
    cases d with
    | int i => exact ⟨i, r.i_int, k _ S1 H1 q t a⟩
    | _ => exact q.elim, x⟩
def cutD {α : Type} (xs : List α) (lo hi : Option Int) : List α := (xs.drop (HT.sIx xs.length 0 lo)).take (HT.sIx xs.length xs.length hi - HT.sIx xs.length 0 lo)
theorem cut_rep {H : Hp} {vs : List V} {ds : List Dv} (l : RepL K H vs ds) (lo hi : Option Int) : RepL K H (cutV vs lo hi) (cutD ds lo hi) := by
  unfold cutV cutD
  rw [l.length]
  exact (l.drop _).take _
theorem cut_whole {α : Type} {xs : List α} {lo hi : Option Int} (h : HT.sIx xs.length 0 lo = 0 ∧ HT.sIx xs.length xs.length hi = xs.length) : cutD xs lo hi = xs := by
  unfold cutD
  rw [h.1, h.2, List.drop_zero, Nat.sub_zero, List.take_length]
def rdSl (x : Dv) (lo hi : Option Int) (S : Sto) (Q : QD) : Prop := match x with
  | .tup xs => Q (.tup (cutD xs lo hi)) S
  | .rol xs => ∀ p, S p = none → Q (.ref p) (put S p (.lst (cutD xs lo hi)))
  | .ref a => match S a with
    | some (.lst xs) => ∀ p, S p = none → Q (.ref p) (put S p (.lst (cutD xs lo hi)))
    | _ => False
  | .str z => z.length ≤ sizeLine ∧ Q (.str (cutS z lo hi)) S
  | _ => False
def dSl (de : DE) (dl dh : DO) : DE := fun ρ S Q X => de ρ S (fun d S1 => dl ρ S1 (fun lo S2 => dh ρ S2 (fun hi S3 => rdSl d lo hi S3 Q) X) X) X
def rSlAll (K : PySem.W.Frag) : V → Option Int → Option Int → Hp → VK → Prop := fun x lo hi H Q => rSlA K x lo hi H Q ∨ rSlL K x lo hi H Q ∨ rSlS x lo hi H Q
theorem sl_all : SlR X (rSlAll X.K) := sl_tupA.or (sl_list.or sl_str)
theorem l_sl {x : V} {d : Dv} {lo hi : Option Int} {H : Hp} {S : Sto} {Qh : QD} {Q : VK} (rx : Rep K H x d) (hS : Abs K H S) (h : rdSl d lo hi S Qh) (k : Lk K H Qh Q) : rSlAll K x lo hi H Q := by
  unfold rdSl at h
  split at h
  · rename_i xs
    obtain ⟨a, us, rfl, ha, la⟩ := rx.i_tup
    refine .inl ⟨a, us, rfl, ha, fun e => ?_, fun _ p hp => k _ _ _ _ h (Tk.new hp) (.tup (.inl (.inl upd_same)) ((cut_rep la lo hi).mono (Tk.new hp))) (hS.tup hp)⟩
    rw [la.length] at e
    rw [cut_whole e] at h
    exact k.now h (.tup ha la) hS
  · obtain ⟨a, us, rfl, ha, la⟩ := rx.i_rol
    exact .inr (.inl ⟨a, us, rfl, ha.sq, fun p hp => k _ _ _ _ (h p (hS.free hp)) (Tk.new hp) (.ref p) (hS.new hp (.mlst upd_same ((cut_rep la lo hi).mono (Tk.new hp))))⟩)
  · rename_i a
    split at h
    · rename_i xs ea
      obtain ⟨us, h1, la⟩ := hS _ _ ea
      exact .inr (.inl ⟨a, us, rx.i_ref, .inl (.inl h1), fun p hp => k _ _ _ _ (h p (hS.free hp)) (Tk.new hp) (.ref p) (hS.new hp (.mlst upd_same ((cut_rep la lo hi).mono (Tk.new hp))))⟩)
    · exact h.elim
  · exact .inr (.inr ⟨_, rx.i_str, h.1, k.now h.2 (.str _) hS⟩)
  · exact h.elim
/-! ### builtins -/
def rdLen : RDC := fun ds S Q => match ds with
  | [.tup xs] => Q (.int xs.length) S
  | [.rol xs] => Q (.int xs.length) S
  | [.ref a] => match S a with
    | some (.lst xs) => Q (.int xs.length) S
    | _ => False
  | [.str z] => z.length ≤ sizeLine ∧ Q (.int z.length) S
  | _ => False
theorem one_i {H : Hp} {vs : List V} {d : Dv} (r : RepL K H vs [d]) : ∃ v, vs = [v] ∧ Rep K H v d := by
  obtain ⟨v, t, rfl, h1, h2⟩ := r.cons_i
  exact ⟨v, by rw [h2.nil_i], h1⟩
theorem two_i {H : Hp} {vs : List V} {d e : Dv} (r : RepL K H vs [d, e]) : ∃ v u, vs = [v, u] ∧ Rep K H v d ∧ Rep K H u e := by
  obtain ⟨v, t, rfl, h1, h2⟩ := r.cons_i
  obtain ⟨u, rfl, h3⟩ := one_i h2
  exact ⟨v, u, rfl, h1, h3⟩
theorem l_len : LRC K (fun xs H Q => ∃ x n, xs = [x] ∧ LenV K x H n ∧ Q (.int n) H) rdLen := by
  intro vs H ds S Qh Q r hS h k
  unfold rdLen at h
  split at h
  · obtain ⟨v, rfl, rr⟩ := one_i r
    obtain ⟨a, us, rfl, ha, la⟩ := rr.i_tup
    exact ⟨_, _, rfl, .inr ⟨us, ha, la.length.symm⟩, k.now h (.int _) hS⟩
  · obtain ⟨v, rfl, rr⟩ := one_i r
    obtain ⟨a, us, rfl, ha, la⟩ := rr.i_rol
    exact ⟨_, _, rfl, .inl ⟨us, ha.sq, la.length.symm⟩, k.now h (.int _) hS⟩
  · rename_i a
    obtain ⟨v, rfl, rr⟩ := one_i r
    split at h
    · rename_i xs ea
      obtain ⟨us, h1, la⟩ := hS _ _ ea
      rw [rr.i_ref]
      exact ⟨_, _, rfl, .inl ⟨us, .inl (.inl h1), la.length.symm⟩, k.now h (.int _) hS⟩
    · exact h.elim
  · obtain ⟨v, rfl, rr⟩ := one_i r
    rw [rr.i_str]
    exact ⟨_, _, rfl, ⟨h.1, rfl⟩, k.now h.2 (.int _) hS⟩
  · exact h.elim
/-- a function on ints -/
def rdInt1 (f : Int → Dv) : RDC := fun ds S Q => match ds with
  | [.int i] => Q (f i) S
  | _ => False
def rdInt : RDC := fun ds S Q => match ds with
  | [.int i] => Q (.int i) S
  | [.bl b] => Q (.int (if b then 1 else 0)) S
  | _ => False
theorem l_int : LRC K (fun xs H Q => (∃ i, xs = [.int i] ∧ Q (.int i) H) ∨ ∃ k, xs = [.bl k] ∧ Q (.int (if k then 1 else 0)) H) rdInt := by
  intro vs H ds S Qh Q r hS h k
  unfold rdInt at h
  split at h
  · obtain ⟨v, rfl, rr⟩ := one_i r
    rw [rr.i_int]
    exact .inl ⟨_, rfl, k.now h (.int _) hS⟩
  · obtain ⟨v, rfl, rr⟩ := one_i r
    rw [rr.i_bl]
    exact .inr ⟨_, rfl, k.now h (.int _) hS⟩
  · exact h.elim
def rdInt2 (f : Int → Int → Dv) : RDC := fun ds S Q => match ds with
  | [.int i, .int j] => Q (f i j) S
  | _ => False
def rdAll : RDC := fun ds S Q => match ds with
  | [d] => lstOf d S fun xs => ∃ bs : List Bool, xs = bs.map Dv.bl ∧ ∃ S', Sub S' S ∧ Q (.bl (bs.all id)) S'
  | _ => False
theorem l_all : LRC K (rAll K) rdAll := by
  intro vs H ds S Qh Q r hS h k
  unfold rdAll at h
  split at h
  · obtain ⟨v, rfl, rr⟩ := one_i r
    obtain ⟨a, us, xs, rfl, hl, rl, bs, rfl, S', sb, q⟩ := lstOf_i rr hS h
    exact ⟨a, bs, rfl, by rw [← rl.bls]; exact hl, k.now q (.bl _) (hS.sub sb)⟩
  · exact h.elim
def rdAny : RDC := fun ds S Q => match ds with
  | [d] => lstOf d S fun xs => ∃ bs : List Bool, xs = bs.map Dv.bl ∧ ∃ S', Sub S' S ∧ Q (.bl (bs.any id)) S'
  | _ => False
theorem l_any : LRC K (rAny K) rdAny := by
  intro vs H ds S Qh Q r hS h k
  unfold rdAny at h
  split at h
  · obtain ⟨v, rfl, rr⟩ := one_i r
    obtain ⟨a, us, xs, rfl, hl, rl, bs, rfl, S', sb, q⟩ := lstOf_i rr hS h
    exact ⟨a, bs, rfl, by rw [← rl.bls]; exact hl, k.now q (.bl _) (hS.sub sb)⟩
  · exact h.elim
def rdTuple : RDC := fun ds S Q => match ds with
  | [d] => seqOf d S fun xs => ∃ S', Sub S' S ∧ Q (.tup xs) S'
  | _ => False
theorem l_tuple : LRC K (fun xs H Q => ∃ p ys, xs = [.ref p] ∧ ((SqL K H p ys ∧ ∀ l, H l = none → Q (.ref l) (upd H l (.tup ys))) ∨ (SqT K H p ys ∧ Q (.ref p) H))) rdTuple := by
  intro vs H ds S Qh Q r hS h k
  unfold rdTuple at h
  split at h
  · obtain ⟨v, rfl, rr⟩ := one_i r
    obtain ⟨a, us, xs, rfl, hl, rl, S', sb, q⟩ := seqOf_i rr hS h
    rcases hl with hl | hl
    · exact ⟨a, us, rfl, .inl ⟨hl, fun p hp => k _ _ _ _ q (Tk.new hp) (.tup (.inl (.inl upd_same)) (rl.mono (Tk.new hp))) ((hS.sub sb).tup hp)⟩⟩
    · exact ⟨a, us, rfl, .inr ⟨hl, k.now q (.tup hl rl) (hS.sub sb)⟩⟩
  · exact h.elim
/-! isinstance -/
/-- the type of a thing -/
def tyD (S : Sto) : Dv → Option Value
  | .non => some (.type "NoneType")
  | .bl _ => some (.type "bool")
  | .int _ => some (.type "int")
  | .str _ => some (.type "str")
  | .tup _ => some (.type "tuple")
  | .rol _ => some (.type "list")
  | .rod _ _ => some (.type "dict")
  | .obj C _ _ => some (.ref C)
  | .ref a => match S a with
    | some (.lst _) => some (.type "list")
    | some (.dK _) => some (.type "dict")
    | some (.ins C _ _) => some (.ref C)
    | _ => none
  | .ty _ => none
def tyNames : List String := ["int", "bool", "str", "tuple", "list", "dict"]
def tyAll : List String := ["NoneType", "bool", "int", "str", "tuple", "list", "dict"]
def isiB (t n : String) : Bool := t == n || (t == "bool" && n == "int")
theorem kitB_tab : ∀ t ∈ tyAll, ∀ n ∈ tyNames, kitB t n = some (isiB t n) := by decide +kernel
/-- what the text says of an own class whose instances are asked -/
structure OwnT (K : PySem.W.Frag) (C : Addr) : Prop where
  cl : Cls K C
  ha : PySem.W.findIn K (.ref C) "__class__" = some (some (.builtin "object.__class__"))
  hn : PySem.W.specialIn K (.builtin "object.__class__") "__get__" = some (some (.builtin "getset_descriptor.__get__"))
  htk : PySem.W.takesIn K (.builtin "object.__class__") = some true
  hm : PySem.W.mroIn K C (.type "object") = some true
  isC : PySem.W.isClsIn K C = true
  ty : PySem.W.typeIn K (.ref C) = some (.type "type")
  nb : ∀ n ∈ tyNames, PySem.W.mroIn K C (.type n) = some false
/-- own classes, and of pairs of them whether the one is of the other -/
structure OTab where
  cs : List Addr
  sub : List (Addr × Addr × Bool)
structure OTab.Ok (K : PySem.W.Frag) (T : OTab) : Prop where
  own : ∀ C ∈ T.cs, OwnT K C
  sub : ∀ p ∈ T.sub, PySem.W.kitOne K (.ref p.1) (.ref p.2.1) = some p.2.2
inductive TyY (K : PySem.W.Frag) (H : Hp) : V → Value → Prop where
  | x {v : V} {t : Value} (h : TyX K H v t) : TyY K H v t
  | ins {a C dx : Addr} {fs : List (Str × V)} (e : InsAt H a C dx fs) (O : OwnT K C) : TyY K H (.ref a) (.ref C)
theorem kit_ofY {pins : List (Addr × Obj)} {σ : L2.St} {H : Hp} {s : Shared} {x : V} {u t : Value} (I : Inv X pins σ H s) (rx : RelV x u) (ty : TyY X.K H x t) : ∃ P : Heap → Prop, PySem.W.KitX X.K u t P ∧ P s.heap ∧ u ≠ .builtin "__main__.__loader__#opaque" := by
  cases ty with
  | x h => exact kit_of I rx h
  | ins e O =>
    cases (show u = Value.ref _ from rx)
    obtain ⟨mA, Om, _⟩ := insAt_get I.hok e
    obtain ⟨od, J, _⟩ := Om.look
    exact ⟨_, PySem.W.kitx_own (O.cl.get _) O.cl.hd O.ha O.hn O.htk O.hm, J, fun z => nomatch z⟩
/-- classes asked for -/
inductive ClsD : V → Dv → Value → Prop where
  | ty (n : String) : ClsD (.ty n) (.ty n) (.type n)
  | own (C : Addr) : ClsD (.ref C) (.ref C) (.ref C)
/-- isinstance(x, c); isinstance(x, (S, T)) by a tuple of any make -/
def rIsiY (K : PySem.W.Frag) : List V → Hp → VK → Prop := fun xs H Q => ∃ (x c : V) (t u : Value) (b : Bool), xs = [x, c] ∧ ClsV c u ∧ TyY K H x t ∧ PySem.W.kitOne K t u = some b ∧ Q (.bl b) H
def rIsiTY (K : PySem.W.Frag) : List V → Hp → VK → Prop := fun xs H Q => ∃ (x : V) (tp : Addr) (cs : List V) (t : Value) (us : List Value) (b : Bool), xs = [x, .ref tp] ∧ SqT K H tp cs ∧ Paired ClsV cs us ∧ TyY K H x t ∧ PySem.W.kitAny K t us = some b ∧ Q (.bl b) H
theorem call_isiY : CallR X (.builtin "isinstance") (rIsiY X.K) := by
  intro pins s σ H xs us Q I r h
  obtain ⟨x, c, t, u, b, rfl, k, ty, e, q⟩ := h
  obtain ⟨u1, u2, rfl, r1, r2⟩ := vals2 r
  obtain rfl := k.eq r2
  obtain ⟨P, Z, p, hx⟩ := kit_ofY I r1 ty
  exact PySem.W.kia_one Z I.kIn p e hx fun tk => ⟨.bl b, H, I.tok tk, rfl, q⟩
theorem call_isiTY : CallR X (.builtin "isinstance") (rIsiTY X.K) := by
  intro pins s σ H xs us Q I r h
  obtain ⟨x, tp, cs, t, ws, b, rfl, hT, k, ty, e, q⟩ := h
  obtain ⟨u1, u2, rfl, r1, r2⟩ := vals2 r
  cases (show u2 = Value.ref tp from r2)
  obtain ⟨P, Z, p, hx⟩ := kit_ofY I r1 ty
  obtain ⟨its, rv, ⟨o, h1, h2, n, h3⟩, hz⟩ := I.tuple hT
  obtain rfl := ClsV.all k rv
  obtain ⟨oc, od, dt, sl⟩ := o
  simp only at h2 h3
  subst h2 h3
  exact PySem.W.kia_tup Z I.kIn p h1 e hx fun tk => ⟨.bl b, H, I.tok tk, rfl, q⟩
theorem call_isiA : CallR X (.builtin "isinstance") (fun xs H Q => rIsiY X.K xs H Q ∨ rIsiTY X.K xs H Q) := call_isiY.or call_isiTY
theorem tyD_in {S : Sto} {d : Dv} {t : Value} (h : tyD S d = some t) : (∃ n ∈ tyAll, t = .type n) ∨ ∃ C, t = .ref C := by
  unfold tyD at h
  split at h <;> first
    | (cases h; done)
    | (cases h; exact .inl ⟨_, by decide, rfl⟩)
    | (cases h; exact .inr ⟨_, rfl⟩)
    | (split at h <;> first | (cases h; done) | (cases h; exact .inl ⟨_, by decide, rfl⟩) | (cases h; exact .inr ⟨_, rfl⟩))
theorem tyD_ok {H : Hp} {S : Sto} {d : Dv} {v : V} {t : Value} (r : Rep K H v d) (hS : Abs K H S) (h : tyD S d = some t) (O : ∀ C, t = .ref C → OwnT K C) : TyY K H v t := by
  unfold tyD at h
  split at h
  · cases h; rw [r.i_non]; exact .x (.base .non)
  · cases h; rw [r.i_bl]; exact .x (.base (.bl _))
  · cases h; rw [r.i_int]; exact .x (.base (.int _))
  · cases h; rw [r.i_str]; exact .x (.base (.str _))
  · cases h
    obtain ⟨a, us, rfl, ha, la⟩ := r.i_tup
    rcases ha with (ha | ⟨o, ha⟩) | ⟨o, its, n, h1, h2, _⟩
    · exact .x (.base (.tup ha))
    · exact .x (.fTuple ha)
    · exact .x (.kTuple h1 h2)
  · cases h
    obtain ⟨a, us, rfl, ha, la⟩ := r.i_rol
    rcases ha with ⟨o, ha⟩ | ⟨its, n, h1, _⟩
    · exact .x (.base (.frz ha))
    · exact .x (.kList h1 rfl)
  · cases h
    obtain ⟨a, o, vs, rfl, ha, _⟩ := r.i_rod
    exact .x (.fDict ha)
  · cases h
    obtain ⟨a, dx, o, vs, rfl, ha, _⟩ := r.i_obj
    exact .ins (.inr ⟨o, ha⟩) (O _ rfl)
  · rename_i a
    split at h
    · rename_i xs ea
      cases h
      obtain ⟨us, h1, la⟩ := hS _ _ ea
      rw [r.i_ref]
      exact .x (.base (.lst h1))
    · rename_i xs ea
      cases h
      obtain ⟨us, h1, la⟩ := hS _ _ ea
      rw [r.i_ref]
      exact .x (.base (.dK h1))
    · rename_i C dx xs ea
      cases h
      obtain ⟨us, h1, la⟩ := hS _ _ ea
      rw [r.i_ref]
      exact .ins (.inl h1) (O _ rfl)
    · cases h
  · cases h
/-- whether a thing of the type t is one of the class c -/
inductive IsiR (T : OTab) : Value → Dv → Bool → Prop where
  | bb (t n : String) (h : tyNames.contains n = true) : IsiR T (.type t) (.ty n) (isiB t n)
  | bo (t : String) (C : Addr) (h : C ∈ T.cs) : IsiR T (.type t) (.ref C) false
  | ob (C : Addr) (n : String) (h : C ∈ T.cs) (hn : tyNames.contains n = true) : IsiR T (.ref C) (.ty n) false
  | oo (C D : Addr) (b : Bool) (h : C ∈ T.cs) (hs : (C, D, b) ∈ T.sub) : IsiR T (.ref C) (.ref D) b
inductive IsiRs (T : OTab) (t : Value) : List Dv → Bool → Prop where
  | nil : IsiRs T t [] false
  | cons {c : Dv} {cs : List Dv} {b r : Bool} : IsiR T t c b → IsiRs T t cs r → IsiRs T t (c :: cs) (b || r)
def rdIsi (T : OTab) : RDC := fun ds S Q => match ds with
  | [d, .tup cs] => ∃ t b, tyD S d = some t ∧ IsiRs T t cs b ∧ (∀ C, t = .ref C → C ∈ T.cs) ∧ Q (.bl b) S
  | [d, c] => ∃ t b, tyD S d = some t ∧ IsiR T t c b ∧ Q (.bl b) S
  | _ => False
theorem noMro : ∀ t ∈ tyAll, ∀ C : Addr, (PySem.fastBuiltinMro t).map (fun l => l.contains (Value.ref C)) = some false := by
  have h : ∀ t ∈ tyAll, ∃ l : List String, PySem.fastBuiltinMro t = some (l.map Value.type) := by
    intro t ht
    simp only [tyAll, List.mem_cons, List.not_mem_nil, or_false] at ht
    rcases ht with rfl | rfl | rfl | rfl | rfl | rfl | rfl
    · exact ⟨["NoneType", "object"], by decide +kernel⟩
    · exact ⟨["bool", "int", "object"], by decide +kernel⟩
    · exact ⟨["int", "object"], by decide +kernel⟩
    · exact ⟨["str", "object"], by decide +kernel⟩
    · exact ⟨["tuple", "object"], by decide +kernel⟩
    · exact ⟨["list", "object"], by decide +kernel⟩
    · exact ⟨["dict", "object"], by decide +kernel⟩
  intro t ht C
  obtain ⟨l, e⟩ := h t ht
  rw [e, Option.map_some]
  congr 1
  clear e
  induction l with
  | nil => rfl
  | cons x l ih =>
    rw [List.map_cons, List.contains_cons, ih]
    rfl
theorem isiR_ok {T : OTab} (hT : T.Ok K) {t : Value} {c : Dv} {b : Bool} (ht : (∃ n ∈ tyAll, t = .type n) ∨ ∃ C, t = .ref C) (h : IsiR T t c b) {H : Hp} {v : V} (rc : Rep K H v c) : ∃ u, ClsV v u ∧ PySem.W.kitOne K t u = some b := by
  cases h with
  | bb t n hn =>
    rw [rc.i_ty]
    have ht' : t ∈ tyAll := by
      rcases ht with ⟨m, hm, e⟩ | ⟨C, e⟩
      · cases e; exact hm
      · cases e
    exact ⟨_, .ty n, kit_ty (kitB_tab t ht' n (by simpa using hn))⟩
  | bo t C hC =>
    rw [rc.i_ref]
    have ht' : t ∈ tyAll := by
      rcases ht with ⟨m, hm, e⟩ | ⟨C, e⟩
      · cases e; exact hm
      · cases e
    refine ⟨_, .own C, ?_⟩
    have O := hT.own C hC
    have e2 : ((PySem.W.clsIn K C).isSome && PySem.W.typeIn K (.ref C) == some (.type "type")) = true := by
      have h1 : (PySem.W.clsIn K C).isSome = true := O.isC
      rw [h1, O.ty] <;> rfl
    show (if (Value.type t == Value.ref C) = true then some true else (if ((PySem.W.clsIn K C).isSome && PySem.W.typeIn K (.ref C) == some (.type "type")) = true then PySem.W.subIn K (.type t) (.ref C) else none)) = some false
    rw [if_neg (by show ¬ (false = true); decide), if_pos e2]
    exact noMro t ht' C
  | ob C n hC hn =>
    rw [rc.i_ty]
    refine ⟨_, .ty n, ?_⟩
    have O := hT.own C hC
    have hn' : n ∈ tyNames := by simpa using hn
    have hk : PySem.W.kitMeta n = true := by
      have : ∀ n ∈ tyNames, PySem.W.kitMeta n = true := by decide +kernel
      exact this n hn'
    show (if (Value.ref C == Value.type n) = true then some true else (if PySem.W.kitMeta n = true then PySem.W.subIn K (.ref C) (.type n) else none)) = some false
    rw [if_neg (by show ¬ (false = true); decide), if_pos hk]
    exact O.nb n hn'
  | oo C D b hC hs =>
    rw [rc.i_ref]
    exact ⟨_, .own D, hT.sub _ hs⟩
theorem isiRs_ok {T : OTab} (hT : T.Ok K) {t : Value} {cs : List Dv} {b : Bool} (ht : (∃ n ∈ tyAll, t = .type n) ∨ ∃ C, t = .ref C) (h : IsiRs T t cs b) {H : Hp} : ∀ {vs : List V}, RepL K H vs cs → ∃ us, Paired ClsV vs us ∧ PySem.W.kitAny K t us = some b := by
  induction h with
  | nil => intro vs r; rw [r.nil_i]; exact ⟨[], .nil, rfl⟩
  | @cons c cs b r hc _ ih =>
    intro vs rv
    obtain ⟨v, vs', rfl, r1, r2⟩ := rv.cons_i
    obtain ⟨u, k, e⟩ := isiR_ok hT ht hc r1
    obtain ⟨us, ks, es⟩ := ih r2
    refine ⟨u :: us, .cons k ks, kitAny_cons e (fun z => ?_) fun z => by rw [z]; rfl⟩
    rw [z, Bool.false_or]
    exact es
theorem isiR_own {T : OTab} {t : Value} {c : Dv} {b : Bool} (h : IsiR T t c b) (C : Addr) (e : t = .ref C) : C ∈ T.cs := by
  cases h with
  | bb => cases e
  | bo => cases e
  | ob C n hC => cases e; exact hC
  | oo C D b hC => cases e; exact hC
theorem l_isi {T : OTab} (hT : T.Ok K) : LRC K (fun xs H Q => rIsiY K xs H Q ∨ rIsiTY K xs H Q) (rdIsi T) := by
  intro vs H ds S Qh Q r hS h k
  unfold rdIsi at h
  split at h
  · rename_i d cs
    obtain ⟨v, u, rfl, r1, r2⟩ := two_i r
    obtain ⟨t, b, ht, hb, ho, q⟩ := h
    obtain ⟨a, us, rfl, ha, la⟩ := r2.i_tup
    obtain ⟨ws, k1, k2⟩ := isiRs_ok hT (tyD_in ht) hb la
    exact .inr ⟨v, a, us, _, _, _, rfl, ha, k1, tyD_ok r1 hS ht (fun C e => hT.own C (ho C e)), k2, k.now q (.bl _) hS⟩
  · rename_i d c
    obtain ⟨v, u, rfl, r1, r2⟩ := two_i r
    obtain ⟨t, b, ht, hb, q⟩ := h
    obtain ⟨w, k1, k2⟩ := isiR_ok hT (tyD_in ht) hb r2
    exact .inl ⟨v, u, _, _, b, rfl, k1, tyD_ok r1 hS ht (fun C e => hT.own C (isiR_own hb C e)), k2, k.now q (.bl _) hS⟩
  · exact h.elim
end
end VD

namespace VD
open PySem PySem.Spec PyProof.Rows L2

/-! ### a def keeps its promise -/
def startN (n : Nat) (ds : List Dv) : Rho := ds.map some ++ List.replicate (n - ds.length) none
/-- the reading of a def with so many names follows from its promise -/
def Rd (t : DS) (n : Nat) (sp : SpD) : Prop := ∀ ds S Q Xh, sp ds S Q Xh → t { nx := fun _ S' => Q .non S', rt := Q, ex := fun c da _ S' => Xh c da S' } (startN n ds) S
abbrev WF (E : XK) : WX := fun cls d _ H => E cls d H
section
variable {P : Program} {w : World} {K : PySem.W.Frag} {mg : Str → Option Value} {base : Heap}
theorem okD {x qual : Str} {st : Stmt} {f : Addr} {fd : FuncData} {N ps : List Str} {k : Nat} {sp : SpD} (F : Fun K x qual st f fd) (Sc : FnScope N ps (defScope st)) (len : ∀ ds S Q X, sp ds S Q X → ds.length = ps.length)
    (t : DS) (hb : ∀ (cdv : Value) (A : Around) (outer : List Env) (s : Shared) (H : Hp) (E : XK), RoomG k (A.deeper (envOfC qual (defScope st) s.heap.objs.size f cdv)) →
      PSs (cxOf (L2.CX P w) P w K mg base N qual (defScope st) f cdv A outer s H E) (defBody st) (lowS K (WF E) t))
    (hr : Rd t N.length sp) : FnD P w K mg base (k + 1) f fd ps sp := by
  refine funG F Sc (fun vs H Q E ⟨ds, S, Qh, Xh, r, a, h, _⟩ => by rw [r.length]; exact len _ _ _ _ h) fun cdv A outer s H vs Q E hr' ⟨ds, S, Qh, Xh, r, a, h, k1, k2⟩ => ?_
  refine ⟨_, hb cdv A outer s H E hr', startD N ds, S, _, RepS.start r, a, hr ds S Qh Xh h, ⟨fun ρ' S' σ' H' q t _ a => k1 .non S' .non H' q t .non a, k1, fun _ _ _ _ (q : False) => False.elim q, fun _ _ _ _ (q : False) => False.elim q, fun c da ρ' S' σ' H' q t _ a => k2 c da S' H' q t a⟩⟩
end

theorem tkF {P : Program} {w : World} {K : PySem.W.Frag} {mg : Str → Option Value} {base : Heap} {N : List Str} {qual : Str} {scope : Scope} {f : Addr} {cd : Value} {A : Around} {outer : List Env} {s : Shared} {H : Hp} {E : XK} :
    Takes (cxOf (L2.CX P w) P w K mg base N qual scope f cd A outer s H E) (WF E) := takes_of rfl rfl rfl rfl
theorem d_ty {X : Cx} {W : WX} {x : Str} {n : String} {pos : Pos} (hm : X.mg x = none) (hv : bootBuiltins x = some (.type n)) (hg : Gl X x := by rfl) (hn : x ≠ "__name__" := by decide) (hd : (x == ("__debug__" : Str)) = false := by decide) :
    PE X (.Name x pos) (low X.K W (dC (.ty n))) := d_bltn (v := .ty n) hm hv rfl (fun _ => .ty n) hg hn hd
/-! ### written values -/
section
variable {K : PySem.W.Frag}
theorem v_int {i : Int} {t : Tok} : VRep K (.int i t) (.int i) := .mk (v := .int i) ⟨t, rfl⟩ fun _ => .int i
theorem v_str {i : Str} {t : Tok} : VRep K (.str i t) (.str i) := .mk (v := .str i) ⟨t, rfl⟩ fun _ => .str i
theorem v_ref {a : Addr} : VRep K (.ref a) (.ref a) := .mk (v := .ref a) rfl fun _ => .ref a
inductive VReps (K : PySem.W.Frag) : List Value → List Dv → Prop
  | nil : VReps K [] []
  | cons {u : Value} {us : List Value} {d : Dv} {ds : List Dv} : VRep K u d → VReps K us ds → VReps K (u :: us) (d :: ds)
theorem VReps.rep : ∀ {us : List Value} {ds : List Dv}, VReps K us ds → ∃ vs, Vals vs us ∧ ∀ H, RepL K H vs ds
  | _, _, .nil => ⟨[], .nil, fun _ => .nil⟩
  | _, _, .cons (.mk r h) t => by
    obtain ⟨vs, h1, h2⟩ := VReps.rep t
    exact ⟨_ :: vs, .cons r h1, fun H => .cons (h H) (h2 H)⟩
end

theorem bt_int : bootBuiltins "int" = some (.type "int") := by decide +kernel
theorem bt_bool : bootBuiltins "bool" = some (.type "bool") := by decide +kernel
theorem bt_str : bootBuiltins "str" = some (.type "str") := by decide +kernel
theorem bt_tuple : bootBuiltins "tuple" = some (.type "tuple") := by decide +kernel
theorem bt_list : bootBuiltins "list" = some (.type "list") := by decide +kernel
theorem bt_len : bootBuiltins "len" = some (.builtin "len") := by decide +kernel
theorem bt_isinstance : bootBuiltins "isinstance" = some (.builtin "isinstance") := by decide +kernel
theorem bt_all : bootBuiltins "all" = some (.builtin "all") := by decide +kernel
theorem bt_any : bootBuiltins "any" = some (.builtin "any") := by decide +kernel
/-! ### an own exception without fields -/
section
variable {X : Cx} {C : Addr} {bmB : List Value} {B newId initId : String}
theorem pmk_own0 {x : Str} {p pos : Pos} (F : ExcBaseFacts B newId initId bmB) (q : PySem.W.excIn X.K C bmB newId = true) (gC : X.mg x = some (.ref C)) (kC : PySem.W.keepIn X.K (.ref C) = true) (r : Raises X (.ref C)) (hg : Gl X x)
    (hdb : (x == ("__debug__" : Str)) = false := by decide) : PMk X (.Call (.Name x p) [] [] pos) (fun _ H Q => Q (.ref C) none H) := by
  intro pins s σ H Q I h
  refine wpAny_Call_Name_kw (ld_glob I hg gC ?_ hdb)
  refine PySem.W.callWith_K0 I.kIn kC ?_
  show wpAny _ _ (call (.ref C) []) _ _ _
  obtain ⟨bm, N, nm, qn, bs, hdct, sn, sub, ab, col, dd, k0, k1, k2, k3, k5, mN, hC, hN, hni, T⟩ := exc_obj I.kIn q
  refine wpAny_call_exc_subT F T hC hN hni (fun h' e hm => ?_) (by show 0 ≤ sizeLine; exact Nat.zero_le _)
  exact mk_of I hm r h (I.hok.gone hm.new)
/-- what the written part says of such a class -/
structure Exc0 (K : PySem.W.Frag) (C : Addr) : Prop where
  q : PySem.W.excIn K C [.type "ValueError", .type "Exception", .type "BaseException", .type "object"] "ValueError.__new__" = true
  kp : PySem.W.keepIn K (.ref C) = true
  sb : PySem.W.subIn K (.ref C) (.type "BaseException") = some true
  ty : PySem.W.typeIn K (.ref C) = some (.type "type")
def dRaise (cls : Value) : DS := fun D ρ S => D.ex cls none ρ S
theorem s_raise0 {W : WX} {x : Str} {p pos' pos : Pos} (hc : X.calm = true) (tk : Takes X W) (T : Exc0 X.K C) (gC : X.mg x = some (.ref C)) (hg : Gl X x := by rfl) (hdb : (x == ("__debug__" : Str)) = false := by decide) :
    PS X (.Raise (some (.Call (.Name x p) [] [] pos')) none pos) (lowS X.K W (dRaise (.ref C))) := psi (ps_raise hc tk (pmk_own0 PySem.F.excBase_ValueError T.q gC T.kp (raises_own T.sb T.ty) hg hdb)) fun D σ H ⟨ρ, S, Dh, hσ, hS, h, k⟩ => k.ex _ _ ρ S σ H h (Tk.refl H) hσ hS
end

/-! ### methods of lists -/
abbrev RDM := Dv → List Dv → Sto → QD → Prop
def LRM (K : PySem.W.Frag) (r : V → List V → Hp → VK → Prop) (rd : RDM) : Prop := ∀ x vs H d ds S Qh Q, Rep K H x d → RepL K H vs ds → Abs K H S → rd d ds S Qh → Lk K H Qh Q → r x vs H Q
def isLst (d : Dv) (S : Sto) : Prop := match d with
  | .ref a => match S a with
    | some (.lst _) => True
    | _ => False
  | _ => False
def dBM (rd : RDM) (do_ : DE) (das : DA) : DE := fun ρ S Q X => do_ ρ S (fun x S1 => isLst x S1 ∧ das ρ S1 (fun ds S2 => rd x ds S2 Q) X) X
section
variable {K : PySem.W.Frag} {X : Cx} {W : WX} {o e : Expr} {es : List Expr} {do_ : DE} {das : DA}
theorem isLst_ty {H : Hp} {S : Sto} {d : Dv} {v : V} (r : Rep K H v d) (hS : Abs K H S) (h : isLst d S) : tyV K "list" v H := by
  unfold isLst at h
  split at h
  · rename_i a
    split at h
    · rename_i xs ea
      obtain ⟨us, h1, l⟩ := hS _ _ ea
      rw [r.i_ref]
      exact .inl ⟨rfl, us, .inl (.inl h1)⟩
    · exact h.elim
  · exact h.elim
theorem low_bm {r : V → List V → Hp → VK → Prop} {rd : RDM} (hl : LRM X.K r rd) : ∀ σ H Q, low X.K W (dBM rd do_ das) σ H Q → tBM X.K "list" r (low X.K W do_) (lowA X.K W das) σ H Q := fun σ H Q ⟨ρ, S, Qh, Xh, hσ, hS, h, k, x⟩ =>
  ⟨ρ, S, _, Xh, hσ, hS, h, fun d S1 v H1 q t rr a => ⟨isLst_ty rr a q.1, ρ, S1, _, Xh, hσ.mono t, a, q.2, fun ds S2 vs H2 q2 t2 r2 a2 => hl v vs H2 d ds S2 Qh Q (rr.mono t2) r2 a2 q2 (k.mono (t.trans t2)), x.mono t⟩, x⟩
def rdAppend : RDM := fun x ds S Q => match x, ds with
  | .ref a, [y] => match S a with
    | some (.lst xs) => xs.length < sizeLine ∧ Q .non (put S a (.lst (xs ++ [y])))
    | _ => False
  | _, _ => False
theorem l_append : LRM K rAppend rdAppend := by
  intro x vs H d ds S Qh Q rx r hS h k
  unfold rdAppend at h
  split at h
  · rename_i a y
    obtain ⟨v, rfl, r1⟩ := one_i r
    split at h
    · rename_i xs ea
      obtain ⟨us, h1, l⟩ := hS _ _ ea
      have tw : Tk K H (upd H a (.lst (us ++ [v]))) := Tk.write h1 wr_lst
      exact ⟨a, us, v, rx.i_ref, rfl, h1, by rw [l.length]; exact h.1, k _ _ _ _ h.2 tw .non (hS.write h1 wr_lst (.mlst upd_same ((l.mono tw).append (.cons (r1.mono tw) .nil))))⟩
    · exact h.elim
  · exact h.elim
end
theorem d_bm {X : Cx} {W : WX} {o e : Expr} {es : List Expr} {do_ : DE} {das : DA} {apos cpos : Pos} {name : Str} {id : String} {r : V → List V → Hp → VK → Prop} {rd : RDM} (slot : Slot "list" name id) (hty : typeOf (.builtin id) = pure (.type "method_descriptor")) (hm : MtR X id r) (hl : LRM X.K r rd)
    (ho : PE X o (low X.K W do_)) (ha : PA X (e :: es) (lowA X.K W das)) (hbase : attributeBase o name X.env (eval o X.env) = eval o X.env := by rfl)
    (hfew : ((backTo cpos (starEach (e :: es) X.env)).all (fun x => !x.1) && (backToKw cpos (keywordEach [] X.env)).all (fun x => x.1.isSome)
      && decide ((e :: es).length + ([] : List Keyword).length + (if ([] : List Keyword).isEmpty then 0 else 1) < 30)) = true := by rfl)
    (hline : (apos.endLine == cpos.line) = true := by rfl) (hs : starEach (e :: es) X.env = (false, eval e X.env) :: starEach es X.env := by rfl) (hplain : (backTo cpos (starEach es X.env)).any (·.1) = false := by rfl) :
    PE X (.Call (.Attribute o name apos) (e :: es) [] cpos) (low X.K W (dBM rd do_ das)) := pei (pe_bm PySem.F.plainAttrs_list slot hty hm ho ha hbase hfew hline hs hplain) (low_bm hl)

/-! ### the end of a law -/
/-- a law's promise -/
def spLaw : SpD := fun ds S Q _ => ∃ ns : List Int, ds = [.rol (ns.map Dv.int)] ∧ ns.length ≤ 63 ∧ S = (fun _ => none) ∧ ∀ S', Q (.bl true) S'
theorem law_in {K : PySem.W.Frag} {H : Hp} {a : Addr} {ns : List Int} (hl : ns.length ≤ 63) (h : CL K H a (ns.map V.int)) : lowF K spLaw [.ref a] H (fun v _ => v = .bl true) fun _ _ _ => False := by
  refine ⟨[.rol (ns.map Dv.int)], fun _ => none, fun d _ => d = .bl true, X0, .cons (.rol h (.of_ints ns)) .nil, ?_, ⟨ns, rfl, hl, rfl, fun _ => rfl⟩, ?_, ?_⟩
  · intro a m e
    cases e
  · intro d S' v H' q t r a
    have q' : d = .bl true := q
    subst q'
    exact r.i_bl
  · intro c da S' H' q
    exact False.elim q
theorem law_out {P : Program} {w : World} (H : Hp) (s : Shared) (e : Value) (s' : Shared) (h : L2.CX P w [] H s (fun _ _ _ => False) e s') : False := by
  obtain ⟨_, _, _, _, _, _, _, _, _, _, _, _, z⟩ := h
  exact z
end VD

namespace VD
open PySem PySem.Spec PyProof.Rows L2

/-- a comprehension whose element is a function of the item and leaves the store -/
theorem lc_pure {g : DG} {te : DE} {vs : List Nat} {ρ : Rho} {Q : QD} {items : List Dv} {stay : Sto → Prop} {S : Sto} (f : Dv → Dv) (hl : items.length ≤ sizeLine) (hst : ∀ p m, S p = none → stay (put S p m))
    (he : ∀ x ∈ items, ∀ (T : Sto) (K : QD), Sub S T → K (f x) T → g x (wipeD ρ vs) T fun ρ2 S2 => te ρ2 S2 K X0) (hQ : ∀ p, S p = none → Q (.ref p) (put S p (.lst (items.map f)))) : LcGo g dYes te vs ρ Q items stay S := by
  intro p hp
  refine ⟨fun i T => T = put S p (.lst ((items.take i).map f)), rfl, fun i T _ h => by rw [h]; exact hst p _ hp, fun i x T hx h => ?_, fun T h => ?_⟩
  · subst h
    refine he x (List.mem_of_getElem? hx) _ _ (Sub.new hp) ?_
    refine ⟨(items.take i).map f, put_same, ?_, ?_⟩
    · rw [List.length_map, List.length_take]
      have := (List.getElem?_eq_some_iff.mp hx).1
      omega
    · show put _ _ _ = put _ _ _
      rw [put_put, List.take_add_one, hx, List.map_append]
      rfl
  · rw [show T = _ from h, List.take_length]
    exact hQ p hp
/-- .. with one test -/
theorem lc_filter {g : DG} {tt : DT} {te : DE} {vs : List Nat} {ρ : Rho} {Q : QD} {items : List Dv} {stay : Sto → Prop} {S : Sto} (c : Dv → Bool) (f : Dv → Dv) (hl : items.length ≤ sizeLine) (hst : ∀ p m, S p = none → stay (put S p m))
    (he : ∀ x ∈ items, ∀ (T : Sto) (K : QD) (N : Sto → Prop), Sub S T → (c x = true → K (f x) T) → (c x = false → N T) → g x (wipeD ρ vs) T fun ρ2 S2 => tt ρ2 S2 (fun b S3 => if b = true then te ρ2 S3 K X0 else N S3) X0) (hQ : ∀ p, S p = none → Q (.ref p) (put S p (.lst ((items.filter c).map f)))) : LcGo g tt te vs ρ Q items stay S := by
  intro p hp
  refine ⟨fun i T => T = put S p (.lst (((items.take i).filter c).map f)), rfl, fun i T _ h => by rw [h]; exact hst p _ hp, fun i x T hx h => ?_, fun T h => ?_⟩
  · subst h
    refine he x (List.mem_of_getElem? hx) _ _ _ (Sub.new hp) (fun hc => ?_) (fun hc => ?_)
    · refine ⟨((items.take i).filter c).map f, put_same, ?_, ?_⟩
      · rw [List.length_map]
        have h1 := (List.getElem?_eq_some_iff.mp hx).1
        have h2 := List.length_filter_le c (items.take i)
        rw [List.length_take] at h2
        omega
      · show put _ _ _ = put _ _ _
        rw [put_put, List.take_add_one, hx]
        simp [List.filter_append, hc]
    · show put _ _ _ = put _ _ _
      rw [List.take_add_one, hx]
      simp [List.filter_append, hc]
  · rw [show T = _ from h, List.take_length]
    exact hQ p hp
/-- a sequence by what holds between the two -/
theorem cut_seq {a b : DS} {D : DEnds} {ρ : Rho} {S : Sto} (M : Rho → Sto → Prop) (h1 : ∀ N : Rho → Sto → Prop, (∀ ρ S, M ρ S → N ρ S) → a { D with nx := N } ρ S) (h2 : ∀ ρ S, M ρ S → b D ρ S) : dSeq a b D ρ S := h1 _ h2
/-- a loop over names and a store by an invariant -/
theorem for_go {g : DG} {tb : DS} {D : DEnds} {ρ : Rho} {items : List Dv} {stay : Sto → Prop} {S : Sto} (Wv : Nat → Rho → Sto → Prop) (h0 : Wv 0 ρ S) (hst : ∀ i ρ S, i ≤ items.length → Wv i ρ S → stay S)
    (hs : ∀ i x ρ S, items[i]? = some x → Wv i ρ S → g x ρ S fun ρ2 S2 => tb { D with nx := Wv (i + 1), ct := Wv (i + 1), bk := D.nx } ρ2 S2) (hd : ∀ ρ S, Wv items.length ρ S → D.nx ρ S) : ForGo g tb D ρ items stay S := ⟨Wv, h0, hst, hs, hd⟩
theorem atI_nn {α : Type} {xs : List α} {i : Int} (h0 : 0 ≤ i) : atI xs i = xs[i.toNat]? := by
  unfold atI ixN
  rw [if_pos h0]
  by_cases h : i < xs.length
  · rw [if_pos h]; rfl
  · rw [if_neg h, List.getElem?_eq_none (by omega)]; rfl
theorem atI_0 {α : Type} {xs : List α} : atI xs 0 = xs[0]? := atI_nn (by decide)
theorem atI_1 {α : Type} {xs : List α} : atI xs 1 = xs[1]? := atI_nn (by decide)
theorem atI_2 {α : Type} {xs : List α} : atI xs 2 = xs[2]? := atI_nn (by decide)
theorem atI_3 {α : Type} {xs : List α} : atI xs 3 = xs[3]? := atI_nn (by decide)
theorem atI_4 {α : Type} {xs : List α} : atI xs 4 = xs[4]? := atI_nn (by decide)
theorem atI_5 {α : Type} {xs : List α} : atI xs 5 = xs[5]? := atI_nn (by decide)
theorem atI_6 {α : Type} {xs : List α} : atI xs 6 = xs[6]? := atI_nn (by decide)
theorem atI_7 {α : Type} {xs : List α} : atI xs 7 = xs[7]? := atI_nn (by decide)
theorem ixN_30 : ixN 3 0 = some 0 := rfl
theorem ixN_31 : ixN 3 1 = some 1 := rfl
theorem ixN_32 : ixN 3 2 = some 2 := rfl
theorem ixN_50 : ixN 5 0 = some 0 := rfl
theorem ixN_51 : ixN 5 1 = some 1 := rfl
theorem ixN_52 : ixN 5 2 = some 2 := rfl
theorem ixN_53 : ixN 5 3 = some 3 := rfl
theorem ixN_54 : ixN 5 4 = some 4 := rfl
theorem cut_take {α : Type} {xs : List α} {k : Int} (h : 0 ≤ k) : cutD xs none (some k) = xs.take k.toNat := by
  unfold cutD
  obtain ⟨n, rfl⟩ := Int.eq_ofNat_of_zero_le h
  show (xs.drop (HT.sIx xs.length 0 none)).take (HT.sIx xs.length xs.length (some (n : Int)) - HT.sIx xs.length 0 none) = _
  rw [HT.sIx_none, HT.sIx_nat, List.drop_zero, Nat.sub_zero]
  simp
theorem cut_drop {α : Type} {xs : List α} {k : Int} (h : 0 ≤ k) : cutD xs (some k) none = xs.drop k.toNat := by
  unfold cutD
  obtain ⟨n, rfl⟩ := Int.eq_ofNat_of_zero_le h
  show (xs.drop (HT.sIx xs.length 0 (some (n : Int)))).take (HT.sIx xs.length xs.length none - HT.sIx xs.length 0 (some (n : Int))) = _
  rw [HT.sIx_none, HT.sIx_nat]
  by_cases hn : n ≤ xs.length
  · rw [Nat.min_eq_left hn, show (Int.toNat (n : Int)) = n from rfl, List.take_of_length_le (by simp)]
  · rw [Nat.min_eq_right (by omega), List.drop_eq_nil_of_le (Nat.le_refl _), List.drop_eq_nil_of_le (by simp; omega)]
    simp
/-! equal tuples of ints -/
end VD

namespace VD
open PySem PySem.Spec PyProof.Rows L2
/-- a promise that nobody can ask for -/
theorem fn_never {P : Program} {w : World} {K : PySem.W.Frag} {mg : Str → Option Value} {base : Heap} {k : Nat} {f : Addr} {fd : FuncData} {ps : List Str} {sp : SpD} (h : ∀ ds S Q X, sp ds S Q X → False) : FnD P w K mg base k f fd ps sp :=
  ⟨fun vs H Q E ⟨ds, S, Qh, Xh, _, _, z, _⟩ => (h _ _ _ _ z).elim, fun A outer s H args us vs Q E _ _ _ _ ⟨ds, S, Qh, Xh, _, _, z, _⟩ => (h _ _ _ _ z).elim⟩
/-! ### zip, enumerate -/
def pairs (xs ys : List Dv) : List Dv := List.zipWith (fun x y => .tup [x, y]) xs ys
theorem pairs_get {xs ys : List Dv} {i : Nat} {z : Dv} (h : (pairs xs ys)[i]? = some z) : ∃ x y, xs[i]? = some x ∧ ys[i]? = some y ∧ z = .tup [x, y] := by
  unfold pairs at h
  rw [List.getElem?_zipWith] at h
  split at h
  · rename_i x y h1 h2
    cases h
    exact ⟨x, y, h1, h2, rfl⟩
  · cases h
theorem pairs_len {xs ys : List Dv} : (pairs xs ys).length = min xs.length ys.length := by unfold pairs; simp
/-- this list is still there -/
def isL (d : Dv) (S : Sto) (xs : List Dv) : Prop := lstOf d S fun zs => zs = xs
section
variable {K : PySem.W.Frag} {H0 : Hp} {a b : Addr} {us vs : List V} {xs ys : List Dv}
theorem rep2 {H : Hp} {T : Addr} {x y : V} {dx dy : Dv} (hT : H T = none) (rx : Rep K H x dx) (ry : Rep K H y dy) : Rep K (upd H T (.tup [x, y])) (.ref T) (.tup [dx, dy]) :=
  .tup (.inl (.inl upd_same)) (.cons (rx.mono (Tk.new hT)) (.cons (ry.mono (Tk.new hT)) .nil))
theorem it_zipT (h1 : SqT K H0 a us) (l1 : RepL K H0 us xs) (h2 : SqT K H0 b vs) (l2 : RepL K H0 vs ys) : ItD K H0 (RZ.ItzT K a b) (pairs xs ys) (fun _ => True) := by
  refine ⟨fun i H S z t ha _ hz => ?_, fun H S t ha _ => ⟨us, vs, t.t _ _ h1, t.t _ _ h2, ?_⟩⟩
  · obtain ⟨x, y, ex, ey, rfl⟩ := pairs_get hz
    obtain ⟨v, ev, rv⟩ := l1.get ex
    obtain ⟨u, eu, ru⟩ := l2.get ey
    refine ⟨⟨us, vs, v, u, t.t _ _ h1, t.t _ _ h2, ev, eu⟩, fun q H' ⟨T, x', y', e1, e2, e3, e4, e5⟩ => ?_⟩
    subst e1 e3
    have g1 := e4 us (t.t _ _ h1)
    have g2 := e5 vs (t.t _ _ h2)
    rw [ev] at g1; rw [eu] at g2
    cases g1; cases g2
    exact ⟨Tk.new e2, rep2 e2 (rv.mono t) (ru.mono t), ha.tup e2⟩
  · rw [pairs_len, ← l1.length, ← l2.length]
    omega
/-- a list read by its data -/
theorem lst_at {H : Hp} {S : Sto} {v : V} {d : Dv} {ds : List Dv} (r : Rep K H0 v d) (t : Tk K H0 H) (ha : Abs K H S) (s : isL d S ds) : ∃ p ws, v = .ref p ∧ SqL K H p ws ∧ RepL K H ws ds := by
  obtain ⟨p, ws, zs, e, hl, rl, rfl⟩ := lstOf_i (r.mono t) ha s
  exact ⟨p, ws, e, hl, rl⟩
theorem it_zipL {dx dy : Dv} (r1 : Rep K H0 (.ref a) dx) (r2 : Rep K H0 (.ref b) dy) : ItD K H0 (Itz K a b) (pairs xs ys) (fun S => isL dx S xs ∧ isL dy S ys) := by
  refine ⟨fun i H S z t ha st hz => ?_, fun H S t ha st => ?_⟩
  · obtain ⟨x, y, ex, ey, rfl⟩ := pairs_get hz
    obtain ⟨p, ws, e1, hl1, l1⟩ := lst_at r1 t ha st.1
    obtain ⟨p', ws', e1', hl2, l2⟩ := lst_at r2 t ha st.2
    cases e1; cases e1'
    obtain ⟨v, ev, rv⟩ := l1.get ex
    obtain ⟨u, eu, ru⟩ := l2.get ey
    refine ⟨⟨ws, ws', v, u, hl1, hl2, ev, eu⟩, fun q H' ⟨T, x', y', e1, e2, e3, e4, e5⟩ => ?_⟩
    subst e1 e3
    have g1 := e4 ws hl1
    have g2 := e5 ws' hl2
    rw [ev] at g1; rw [eu] at g2
    cases g1; cases g2
    exact ⟨Tk.new e2, rep2 e2 rv ru, ha.tup e2⟩
  · obtain ⟨p, ws, e1, hl1, l1⟩ := lst_at r1 t ha st.1
    obtain ⟨p', ws', e1', hl2, l2⟩ := lst_at r2 t ha st.2
    cases e1; cases e1'
    refine ⟨ws, ws', hl1, hl2, ?_⟩
    rw [pairs_len, ← l1.length, ← l2.length]
    omega
/-- the pairs of a count and an item -/
def counted (xs : List Dv) : List Dv := xs.mapIdx fun i x => .tup [.int i, x]
theorem counted_get {i : Nat} {z : Dv} (h : (counted xs)[i]? = some z) : ∃ x, xs[i]? = some x ∧ z = .tup [.int i, x] := by
  unfold counted at h
  rw [List.getElem?_mapIdx, Option.map_eq_some_iff] at h
  obtain ⟨x, h1, h2⟩ := h
  exact ⟨x, h1, h2.symm⟩
theorem counted_len : (counted xs).length = xs.length := by unfold counted; simp
theorem it_enumL {dx : Dv} (r1 : Rep K H0 (.ref a) dx) : ItD K H0 (Ite K a) (counted xs) (fun S => isL dx S xs) := by
  refine ⟨fun i H S z t ha st hz => ?_, fun H S t ha st => ?_⟩
  · obtain ⟨x, ex, rfl⟩ := counted_get hz
    obtain ⟨p, ws, e1, hl1, l1⟩ := lst_at r1 t ha st
    cases e1
    obtain ⟨v, ev, rv⟩ := l1.get ex
    refine ⟨⟨ws, v, hl1, ev⟩, fun q H' ⟨T, x', e1, e2, e3, e4⟩ => ?_⟩
    subst e1 e3
    have g1 := e4 ws hl1
    rw [ev] at g1
    cases g1
    exact ⟨Tk.new e2, rep2 e2 (.int _) rv, ha.tup e2⟩
  · obtain ⟨p, ws, e1, hl1, l1⟩ := lst_at r1 t ha st
    cases e1
    refine ⟨ws, hl1, ?_⟩
    rw [counted_len, ← l1.length]
    exact Nat.le_refl _
end
section
variable {X : Cx} {W : WX} {e e2 : Expr} {das : DA} {p pos tpos : Pos} {elts : List Expr} {kk : Nat}
def iZipD (das : DA) : DI := fun ρ S R X => das ρ S (fun ds S1 => match ds with
  | [.tup xs, .tup ys] => R (pairs xs ys) (fun _ => True) S1
  | [d, e] => lstOf d S1 fun xs => lstOf e S1 fun ys => R (pairs xs ys) (fun S => isL d S xs ∧ isL e S ys) S1
  | _ => False) X
theorem lstOf_ex {d : Dv} {S : Sto} {R : List Dv → Prop} (h : lstOf d S R) : ∃ xs, isL d S xs ∧ R xs := by
  unfold isL
  unfold lstOf at h ⊢
  split at h
  · exact ⟨_, rfl, h⟩
  · split at h
    · rename_i hs
      simp only [hs]
      exact ⟨_, rfl, h⟩
    · exact h.elim
  · exact h.elim
theorem i_zip (hm : X.mg "zip" = none) (ha : PA X [e, e2] (lowA X.K W das)) (hg : Gl X "zip" := by rfl) (hs : starEach [e, e2] X.env = (false, eval e X.env) :: starEach [e2] X.env := by rfl) (hpl : (backTo pos (starEach [e2] X.env)).any (·.1) = false := by rfl) :
    PI X (.Tuple elts kk tpos) (.Call (.Name "zip" p) [e, e2] [] pos) (lowI X.K W (iZipD das)) := pii (RZ.pi_zipA hg hm ha hs hpl) fun σ H R ⟨ρ, S, Rh, Xh, hσ, hS, h, k, x⟩ => by
  refine ⟨ρ, S, _, Xh, hσ, hS, h, fun ds S1 vs H1 q t r a => ?_, x⟩
  dsimp only at q
  split at q
  · rename_i xs ys
    obtain ⟨v, u, rfl, r1, r2⟩ := two_i r
    obtain ⟨c, us, rfl, hc, lc⟩ := r1.i_tup
    obtain ⟨d, ws, rfl, hd, ld⟩ := r2.i_tup
    exact ⟨c, d, us, ws, rfl, .inr ⟨hc, hd, k _ _ S1 _ H1 q t a (it_zipT hc lc hd ld)⟩⟩
  · rename_i d1 d2 _
    obtain ⟨v, u, rfl, r1, r2⟩ := two_i r
    obtain ⟨xs, s1, q⟩ := lstOf_ex q
    obtain ⟨ys, s2, q⟩ := lstOf_ex q
    obtain ⟨c, us, rfl, hc, lc⟩ := lst_at r1 (Tk.refl H1) a s1
    obtain ⟨d, ws, rfl, hd, ld⟩ := lst_at r2 (Tk.refl H1) a s2
    exact ⟨c, d, us, ws, rfl, .inl ⟨hc, hd, k _ _ S1 _ H1 q t a (it_zipL r1 r2)⟩⟩
  · exact q.elim
end
end VD

namespace VD
open PySem PySem.Spec PyProof.Rows L2
/-! ### try with except clauses (no names) -/
/-- which clause takes an exception: of each clause, the classes it is known to take or not -/
def wD : List (List (Value × Bool) × DS) → DEnds → Value → Option Addr → Rho → Sto → Prop
  | [], D, cls, da, ρ, S => D.ex cls da ρ S
  | (tab, s) :: r, D, cls, da, ρ, S => ∃ b, (cls, b) ∈ tab ∧ (b = true → s { D with ex := fun _ _ _ _ => False } ρ S) ∧ (b = false → wD r D cls da ρ S)
def dTry (b : DS) (l : List (List (Value × Bool) × DS)) : DS := fun D ρ S => b { D with ex := wD l D } ρ S
inductive HdsD (X : Cx) : List ExceptHandler → List (List (Value × Bool) × DS) → List (Value × (Addr → Value → Option Addr → TS)) → Prop
  | nil : HdsD X [] [] []
  | cons {x : Str} {c : Value} {s : DS} {tab : List (Value × Bool)} {b₀ : Stmt} {suite : List Stmt} {np pos' : Pos} {hds : List ExceptHandler} {l : List (List (Value × Bool) × DS)} {l' : List (Value × (Addr → Value → Option Addr → TS))}
      (hc : Names X x c) (ht : ∀ p ∈ tab, PySem.W.exmOne X.K p.1 c = some p.2) (hsu : ∀ (a : Addr) (pn : List (Addr × Obj)), PSs (X.suite a pn) (b₀ :: suite) (lowS X.K W0 s)) (r : HdsD X hds l l') :
      HdsD X (.ExceptHandler (some (.Name x np)) none (b₀ :: suite) pos' :: hds) ((tab, s) :: l) ((c, fun _ _ _ => lowS X.K W0 s) :: l')
theorem HdsD.ok {X : Cx} {hds : List ExceptHandler} {l : List (List (Value × Bool) × DS)} {l' : List (Value × (Addr → Value → Option Addr → TS))} (h : HdsD X hds l l') : HdsOk X hds l' := by
  induction h with
  | nil => exact .nil
  | cons hc ht hsu r ih => exact .cons hc (fun a oe cls d pn _ _ => hsu a _) ih
theorem HdsD.go {X : Cx} {W : WX} {H : Hp} {Dh : DEnds} {D : Ends} (k : LkS X.K W H Dh D) {hds : List ExceptHandler} {l : List (List (Value × Bool) × DS)} {l' : List (Value × (Addr → Value → Option Addr → TS))} (h : HdsD X hds l l') :
    ∀ cls da, LkG X.K H (wD l Dh cls da) (wMany X.K W D l' cls da) := by
  induction h with
  | nil => exact fun cls da => k.ex cls da
  | cons hc ht hsu r ih =>
    intro cls da ρ S σ' H' ⟨b, hb, hy, hn⟩ t rs a
    refine ⟨b, ht _ hb, fun e p hp => ⟨ρ, S, _, rs, a, hy e, ⟨k.nx.mono t, k.rt.mono t, k.bk.mono t, k.ct.mono t, fun _ _ _ _ _ _ q => q.elim⟩⟩, fun e => ih cls da ρ S σ' H' (hn e) t rs a⟩
theorem s_try {X : Cx} {W : WX} {body : List Stmt} {h₀ : ExceptHandler} {hds : List ExceptHandler} {b : DS} {l : List (List (Value × Bool) × DS)} {l' : List (Value × (Addr → Value → Option Addr → TS))} {pos : Pos} (tk : Takes X W)
    (hb : ∀ (W' : WX) (pn : List (Addr × Obj)) (xe : Value → Shared → Prop), Takes (X.tr pn xe) W' → PSs (X.tr pn xe) body (lowS X.K W' b)) (hh : HdsD X (h₀ :: hds) l l')
    (hs : X.stack = X.env :: X.outer := by rfl) (hf : X.env.frame = some X.env.locals := by rfl) : PS X (.Try body (h₀ :: hds) [] [] pos) (lowS X.K W (dTry b l)) :=
  psi (ps_try_many (tb := fun W' => lowS X.K W' b) hs hf tk (fun W' pn xe tk' _ => hb W' pn xe tk') hh.ok) fun D σ H ⟨ρ, S, Dh, hσ, hS, h, k⟩ =>
    ⟨ρ, S, { Dh with ex := wD l Dh }, hσ, hS, h, ⟨k.nx, k.rt, k.bk, k.ct, hh.go k⟩⟩
theorem nm_own {X : Cx} {x : Str} {c : Value} (h : X.mg x = some c) (hg : Gl X x := by rfl) (hd : (x == ("__debug__" : Str)) = false := by decide) : Names X x c := ⟨hg, hd, .inl h⟩
theorem tabs_nil {K : PySem.W.Frag} {c : Value} : ∀ p ∈ ([] : List (Value × Bool)), PySem.W.exmOne K p.1 c = some p.2 := fun _ h => by cases h
theorem tabs_cons {K : PySem.W.Frag} {c v : Value} {b : Bool} {tab : List (Value × Bool)} (h : PySem.W.exmOne K v c = some b) (r : ∀ p ∈ tab, PySem.W.exmOne K p.1 c = some p.2) : ∀ p ∈ (v, b) :: tab, PySem.W.exmOne K p.1 c = some p.2 := fun p hp => by
  rcases List.mem_cons.mp hp with rfl | hp
  · exact h
  · exact r p hp
theorem exm_mk {K : PySem.W.Frag} {S : Addr} {cls : Value} {b : Bool} (h1 : PySem.W.subIn K (.ref S) (.type "BaseException") = some true) (h2 : PySem.W.isClsIn K S = true) (h3 : PySem.W.typeIn K (.ref S) = some (.type "type")) (h4 : PySem.W.subIn K cls (.ref S) = some b) :
    PySem.W.exmOne K cls (.ref S) = some b := by
  have e1 : (PySem.W.subIn K (.ref S) (.type "BaseException") == some true) = true := by rw [h1] <;> rfl
  have e2 : ((PySem.W.clsIn K S).isSome && PySem.W.typeIn K (.ref S) == some (.type "type")) = true := by
    have h2' : (PySem.W.clsIn K S).isSome = true := h2
    rw [h2', h3] <;> rfl
  show (if (PySem.W.subIn K (.ref S) (.type "BaseException") == some true) = true then (if ((PySem.W.clsIn K S).isSome && PySem.W.typeIn K (.ref S) == some (.type "type")) = true then PySem.W.subIn K cls (.ref S) else none) else none) = some b
  rw [if_pos e1, if_pos e2]
  exact h4
/-! ### is True -/
def isBlV : Dv → Bool → Bool
  | .bl c, b => decide (c = b)
  | _, _ => false
def rdIsB (f : Bool → Bool) : RD2 := fun x y S Q => match y with
  | .bl b => Q (.bl (f (isBlV x b))) S
  | _ => False
section
variable {K : PySem.W.Frag} {X : Cx} {W : WX}
def vBl : V → Bool → Bool
  | .bl c, b => decide (c = b)
  | _, _ => false
def rIsBA : R2 := fun x y H Q => ∃ b, y = .bl b ∧ Q (.bl (vBl x b)) H
theorem op_isBA : OpR X (compareOp .Is) rIsBA := by
  intro pins s σ H x y v u Q I rx ry h
  obtain ⟨b, rfl, q⟩ := h
  cases (show u = Value.bool b from ry)
  cases x with
  | bl a => exact op_isBl pins s σ H (.bl a) (.bl b) _ _ Q I rx (show RelV (.bl b) (.bool b) from rfl) ⟨a, b, rfl, rfl, q⟩
  | ref a => cases rx; exact wpAny_is_other rfl (by intro z; cases z) ⟨.bl false, H, I, rfl, q⟩
  | non => cases rx; exact wpAny_is_other rfl (by intro z; cases z) ⟨.bl false, H, I, rfl, q⟩
  | int i => obtain ⟨t, rfl⟩ := rx; exact wpAny_is_other rfl (by intro z; cases z) ⟨.bl false, H, I, rfl, q⟩
  | str i => obtain ⟨t, rfl⟩ := rx; exact wpAny_is_other rfl (by intro z; cases z) ⟨.bl false, H, I, rfl, q⟩
  | byt i => obtain ⟨t, rfl⟩ := rx; exact wpAny_is_other rfl (by intro z; cases z) ⟨.bl false, H, I, rfl, q⟩
  | flt i => obtain ⟨t, rfl⟩ := rx; exact wpAny_is_other rfl (by intro z; cases z) ⟨.bl false, H, I, rfl, q⟩
  | ty n => cases rx; exact wpAny_is_other rfl (by intro z; cases z) ⟨.bl false, H, I, rfl, q⟩
theorem isBl_v {H : Hp} {x : V} {d : Dv} {b : Bool} (r : Rep K H x d) : vBl x b = isBlV d b := by
  cases r <;> rfl
theorem l_isB : LR2 K rIsBA (rdIsB fun b => b) := by
  intro x y H dx dy S Qh Q rx ry hS h k
  unfold rdIsB at h
  split at h
  · exact ⟨_, ry.i_bl, by rw [isBl_v rx]; exact k.now h (.bl _) hS⟩
  · exact h.elim
/-! ### str(i), int(z), z * i -/
def rdStrI : RDC := fun ds S Q => match ds with
  | [.int i] => i.natAbs.log2 < 1920 ∧ Q (.str (toString i)) S
  | _ => False
def rdIntS : RDC := fun ds S Q => match ds with
  | [.str a] => ∃ n, PySem.intText? a = some n ∧ a.length ≤ 640 ∧ Q (.int n) S
  | _ => False
def repStr (z : Str) (n : Int) : Str := ⟨(List.replicate n.toNat z.cps).foldl (· ++ ·) #[]⟩
def rdMulS : RD2 := fun x y S Q => match x, y with
  | .str z, .int n => (2 ≤ n ∧ n ≤ 1000 ∧ 0 < z.length ∧ z.length ≤ 1000) ∧ Q (.str (repStr z n)) S
  | _, _ => False
/-! ### dicts written out -/
def dDict0 : DE := fun ρ S Q _ => ∀ p, S p = none → Q (.ref p) (put S p (.dK []))
theorem d_dict0 {pos : Pos} : PE X (.Dict [] [] pos) (low X.K W dDict0) := pei pe_dnewK fun σ H Q ⟨ρ, S, Qh, Xh, hσ, hS, h, k, x⟩ p hp =>
  k _ _ _ _ (h p (hS.free hp)) (Tk.new hp) (.ref p) (hS.new hp (.mdK upd_same .nil))
/-- one pair -/
def dDict1 (dk dv : DE) : DE := fun ρ S Q X => ∀ p, S p = none → dk ρ (put S p (.dK [])) (fun x S1 => dv ρ S1 (fun y S2 => S2 p = some (.dK []) ∧ match x with
  | .str z => Q (.ref p) (put S2 p (.dK [(.inr z, y)]))
  | .int z => Q (.ref p) (put S2 p (.dK [(.inl z, y)]))
  | _ => False) X) X
theorem d_dict1 {pos : Pos} {ek ev : Expr} {dk dv : DE} (hk : PE X ek (low X.K W dk)) (hv : PE X ev (low X.K W dv)) : PE X (.Dict [some ek] [ev] pos) (low X.K W (dDict1 dk dv)) :=
  pei (pe_disp (pps_cons hk hv pps_nil) rfl rfl (by simp) (by simp)) fun σ H Q ⟨ρ, S, Qh, Xh, hσ, hS, h, k, x⟩ p hp => by
    have t0 : Tk X.K H (upd H p (.dK [])) := Tk.new hp
    refine ⟨ρ, _, _, Xh, hσ.mono t0, hS.new hp (.mdK upd_same .nil), h p (hS.free hp), fun d1 S1 v1 H1 q1 t1 r1 a1 => ?_, x.mono t0⟩
    refine ⟨ρ, S1, _, Xh, hσ.mono (t0.trans t1), a1, q1, fun d2 S2 v2 H2 q2 t2 r2 a2 => ?_, x.mono (t0.trans t1)⟩
    obtain ⟨e, q2⟩ := q2
    obtain ⟨gs, e1, e2⟩ := a2 p _ e
    cases e2
    have t3 : Tk X.K H2 (upd H2 p (.dK [])) := Tk.write e1 wr_dK
    have fin : ∀ z : Key, Qh (.ref p) (put S2 p (.dK [(z, d2)])) → Q (.ref p) (upd H2 p (.dK (mergeK [] [(z, v2)]))) := fun z q => by
      have t4 : Tk X.K H2 (upd H2 p (.dK (mergeK [] [(z, v2)]))) := Tk.write e1 wr_dK
      exact k _ _ _ _ q (((t0.trans t1).trans t2).trans t4) (.ref p) (a2.write e1 wr_dK (.mdK upd_same (.cons ⟨rfl, r2.mono t4⟩ .nil)))
    cases d1 with
    | str z =>
      have e5 := (r1.mono t2).i_str
      subst e5
      exact ⟨e1, [(.inr z, v2)], rfl, by simp, fin _ q2⟩
    | int z =>
      have e5 := (r1.mono t2).i_int
      subst e5
      exact ⟨e1, [(.inl z, v2)], rfl, by simp, fin _ q2⟩
    | _ => exact q2.elim
def rMulS : R2 := fun x y H Q => ∃ z n, x = .str z ∧ y = .int n ∧ (2 ≤ n ∧ n ≤ 1000 ∧ 0 < z.length ∧ z.length ≤ 1000) ∧ Q (.str (repStr z n)) H
theorem op_mulS : OpR X (binaryOp .Mult) rMulS := by
  intro pins s σ H x y v u Q I rx ry h
  obtain ⟨z, n, rfl, rfl, ⟨h1, h2, h3, h4⟩, q⟩ := h
  obtain ⟨t, rfl⟩ := rx
  obtain ⟨t2, rfl⟩ := ry
  have c : (n == 1 || z.length == 0) = false := by
    rw [Bool.or_eq_false_iff]
    exact ⟨by simp; omega, by simp; omega⟩
  have hlen : z.length * n.toNat ≤ 1000 * 1000 := Nat.mul_le_mul h4 (by omega)
  refine P.mul_str ?_ (fun _ _ => ?_) (fun _ _ => ?_) ?_
  · rw [decide_eq_false (by omega), decide_eq_false (by omega)]; rfl
  · have : (1000 : Int) ≤ (2 ^ 63 - 1 : Int) / n := Int.le_ediv_of_mul_le (by omega) (by omega)
    omega
  · unfold Builtin.Str.tooLong
    rw [decide_eq_false]
    rw [sizeLine_eq]
    omega
  · rw [if_neg (by omega), if_neg (by rw [c]; decide)]
    have hl : ∀ (k : Nat) (acc : Array Nat), ((List.replicate k z.cps).foldl (· ++ ·) acc).size = acc.size + k * z.cps.size := by
      intro k
      induction k with
      | zero => intro acc; simp
      | succ k ih => intro acc; rw [List.replicate_succ, List.foldl_cons, ih]; simp [Nat.add_mul]; omega
    refine ⟨?_, .str (repStr z n), H, I.tok _, ⟨_, rfl⟩, q⟩
    show (((List.replicate n.toNat z.cps).foldl (· ++ ·) #[]).size : Nat) ≤ sizeLine
    rw [hl, sizeLine_eq]
    have : n.toNat * z.cps.size ≤ 1000 * 1000 := Nat.mul_le_mul (by omega) h4
    simp
    omega
theorem l_mulS : LR2 K rMulS rdMulS := by
  intro x y H dx dy S Qh Q rx ry hS h k
  unfold rdMulS at h
  split at h
  · exact ⟨_, _, rx.i_str, ry.i_int, h.1, k.now h.2 (.str _) hS⟩
  · exact h.elim
end
end VD

namespace VD
open PySem PySem.Spec PyProof.Rows L2
theorem ve_base : PySem.HandSPX.refsVE [.type "ValueError", .type "Exception", .type "BaseException", .type "object"] = true := by decide +kernel
theorem ve_step {a : Addr} {r : List Value} (h : PySem.HandSPX.refsVE r = true) : PySem.HandSPX.refsVE (.ref a :: r) = true := h
/-! ### own exceptions with one field -/
def spInit (C : Addr) (f : Str) : Sp := fun vs H Q _ => ∃ a v, vs = [.ref a, v] ∧ H a = some (exo a C none) ∧ ∀ dx, H dx = none → dx ≠ a → Q .non (upd (upd H dx (exd dx [(f, v)])) a (exo a C (some dx)))
theorem okInit {P : Program} {w : World} {K : PySem.W.Frag} {mg : Str → Option Value} {base : Heap} {x qual : Str} {st : Stmt} {g C : Addr} {fd : FuncData} {p1 p2 f : Str} (F : Fun K x qual st g fd) (Sc : FnScope [p1, p2] [p1, p2] (defScope st)) (T : OexC K C) (hno : PySem.W.findIn K (.ref C) f = some none)
    (hb : ∀ (cdv : Value) (A : Around) (outer : List Env) (s : Shared) (H : Hp) (E : XK), Room 0 (A.deeper (envOfC qual (defScope st) s.heap.objs.size g cdv)) →
      PSs (cxOf (L2.CX P w) P w K mg base [p1, p2] qual (defScope st) g cdv A outer s H E) (defBody st) (tOst K f (tVar 0) (tVar 1))) : FnOk P w K mg base (L2.CX P w) 1 g fd [p1, p2] (spInit C f) := by
  refine Fun.okX F Sc (fun vs H Q E ⟨a, v, e, _⟩ => by rw [e]; rfl) fun cdv A outer s H vs Q E hr' ⟨a, v, e, ea, q⟩ => ?_
  subst e
  exact ⟨_, hb cdv A outer s H E hr', v, rfl, .ref a, rfl, a, C, rfl, T, hno, .inl ⟨ea, fun dx n ne => q dx n ne⟩⟩
def dRaiseF (cls : Value) (f : Str) (das : DA) : DS := fun D ρ S => das ρ S (fun ds S1 => match ds with
  | [d] => ∀ dx, S1 dx = none → D.ex cls (some dx) ρ (put S1 dx (.xd [(f, d)]))
  | _ => False) (D.xd ρ)
section
variable {X : Cx} {W : WX}
theorem s_raise1 {x f : Str} {C fI : Addr} {k : Nat} {fd : FuncData} {ps : List Str} {e : Expr} {das : DA} {p pos' pos : Pos} (hc : X.calm = true) (tk : Takes X W) (T : OexC X.K C) (iC : PySem.W.findIn X.K (.ref C) "__init__" = some (some (.ref fI)))
    (tI : PySem.W.typeIn X.K (.ref fI) = some (.type "function")) (F1 : FnOk X.prog X.w X.K X.mg X.base (L2.CX X.prog X.w) k fI fd ps (spInit C f)) (hr : RoomG (k + 1) X.A) (hb : Binds X.K fd ps []) (gC : X.mg x = some (.ref C)) (ha : PA X [e] (lowA X.K W das)) (hg : Gl X x := by rfl)
    (hdb : (x == ("__debug__" : Str)) = false := by decide) (he : starEach [e] X.env = (false, eval e X.env) :: starEach [] X.env := by rfl) (hpl : (backTo pos' (starEach [] X.env)).any (·.1) = false := by rfl) :
    PS X (.Raise (some (.Call (.Name x p) [e] [] pos')) none pos) (lowS X.K W (dRaiseF (.ref C) f das)) :=
  psi (ps_raise hc tk (pmk_oex (dvs := []) (ds := []) T iC tI F1 hr.r hb .nil (passes_call tk fun _ _ _ _ h => h.elim) hg gC ha hdb he hpl)) fun D σ H ⟨ρ, S, Dh, hσ, hS, h, k⟩ => by
    refine ⟨ρ, S, _, _, hσ, hS, h, fun ds S1 vs H1 q t r a => ?_, k.lx hσ⟩
    match ds, q, r with
    | [d], q, r =>
      obtain ⟨v, rfl, rv⟩ := one_i r
      refine ⟨by simp, fun e1 n1 => ⟨e1, v, rfl, upd_same, fun dx nd ne => ?_⟩⟩
      have nd1 : H1 dx = none := by rw [upd_ne ne] at nd; exact nd
      refine ⟨rfl, dx, [(f, v)], upd_same, ?_, nd1, ?_⟩
      · rw [upd_ne ne]; exact upd_same
      · have eH : upd (del (upd (upd (upd H1 e1 (exo e1 C none)) dx (exd dx [(f, v)])) e1 (exo e1 C (some dx))) e1) dx (.xd [(f, v)]) = upd H1 dx (.xd [(f, v)]) := by
          funext b
          by_cases h1 : b = dx
          · subst h1; rw [upd_same, upd_same]
          · rw [upd_ne h1, upd_ne h1]
            by_cases h2 : b = e1
            · subst h2; rw [del_same, n1]
            · rw [del_ne h2, upd_ne h2, upd_ne h1, upd_ne h2]
        rw [eH]
        have t2 : Tk X.K H1 (upd H1 dx (.xd [(f, v)])) := Tk.new nd1
        exact k.ex _ _ ρ _ σ _ (q dx (a.free nd1)) (t.trans t2) (hσ.mono (t.trans t2)) (a.new nd1 (.mxd upd_same (.cons ⟨rfl, rv.mono t2⟩ .nil)))
    | [], q, _ => exact q.elim
    | _ :: _ :: _, q, _ => exact q.elim
/-- error.f in a suite -/
def dXf (a : Addr) (cls : Value) (da : Option Addr) (C : Addr) (f : Str) (de : DE) : DE := fun ρ S Q X => de ρ S (fun x S1 => x = .ref a ∧ cls = .ref C ∧ ∃ dd fs v, da = some dd ∧ S1 dd = some (.xd fs) ∧ fs.lookup f = some v ∧ Q v S1) X
theorem lookF {K : PySem.W.Frag} {H : Hp} {f : Str} {d : Dv} : ∀ {gs : List (Str × V)} {fs : List (Str × Dv)}, RepF K H gs fs → fs.lookup f = some d → ∃ v, gs.lookup f = some v ∧ Rep K H v d
  | _, _, .nil, e => by cases e
  | (g, v) :: gs, (g', d') :: fs, .cons ⟨e1, r⟩ t, e => by
    dsimp only at e1 r
    subst e1
    rw [List.lookup_cons] at e ⊢
    cases h : f == g with
    | true =>
      rw [h] at e
      cases e
      exact ⟨v, rfl, r⟩
    | false =>
      rw [h] at e
      exact lookF t e
theorem d_xf {a C : Addr} {oe : Obj} {cls : Value} {da : Option Addr} {pn : List (Addr × Obj)} {e : Expr} {de : DE} {pos : Pos} {n : Str} (T : XfC X.K C) (hno : PySem.W.findIn X.K (.ref C) n = some none)
    (hz : Zc cls da oe) (hf : ∃ vs, oe.data = .fields vs) (he : PE (X.suite a ((a, oe) :: pn)) e (low X.K W de)) (hb : attributeBase e n X.env (eval e X.env) = eval e X.env := by rfl) :
    PE (X.suite a ((a, oe) :: pn)) (.Attribute e n pos) (low X.K W (dXf a cls da C n de)) :=
  pei (pe_xf T hno hz hf he hb) fun σ H Q ⟨ρ, S, Qh, Xh, hσ, hS, h, k, x⟩ => ⟨ρ, S, _, Xh, hσ, hS, h, fun d1 S1 v1 H1 q1 t1 r1 a1 => by
    obtain ⟨e1, e2, dd, fs, v, e3, e4, e5, q⟩ := q1
    subst e1
    obtain ⟨gs, g1, g2⟩ := a1 dd _ e4
    obtain ⟨u, u1, u2⟩ := lookF g2 e5
    exact ⟨r1.i_ref, e2, dd, gs, u, e3, g1, u1, k v S1 u H1 q t1 u2 a1⟩, x⟩
end
end VD

namespace VD
open PySem PySem.Spec PyProof.Rows L2
/-! ### try, the first clause with a name and taking every exception of the body; what other clauses follow is all one -/
def offSlot (i : Nat) (D : Ends) : Ends := { nx := fun σ H => D.nx (σ.set i none) H, rt := D.rt, bk := fun σ H => D.bk (σ.set i none) H, ct := fun σ H => D.ct (σ.set i none) H }
def wTake (K : PySem.W.Frag) (c : Value) (i : Nat) (ts : Addr → Value → Option Addr → TS) (D : Ends) : WX := fun cls d σ H =>
  PySem.W.exmOne K cls c = some true ∧ ∀ a, H a = none → ts a cls d (offSlot i D) (σ.set i (some (.ref a))) H
section
variable {X : Cx} {x n : Str} {c : Value} {i : Nat} {bd su : List Stmt} {s₁ : Stmt} {np p1 p2 : Pos} {others : List ExceptHandler} {tb : WX → TS} {ts : Addr → Value → Option Addr → TS}
/-- an exception's object is no frame -/
theorem no_frame {B g : Heap} {a : Addr} {o : Obj} {vs : Array Value} (ff : g.FunFrames B (X.env :: X.outer)) (e : g.get? a = some o) (d : o.data = .fields vs) : a ∉ frs (X.env :: X.outer) := fun hm => by
  obtain ⟨_, o2, e2, nf⟩ := ff.mem hm
  cases e.symm.trans e2
  exact nf _ d
theorem ps_take (hs : X.stack = X.env :: X.outer) (hf : X.env.frame = some X.env.locals) (hN : X.N.Nodup) (hi : X.N[i]? = some n) (hln : X.env.kindOf n = some .local) (hc : Names X x c)
    (hb : ∀ (W : WX) (pn : List (Addr × Obj)) (xe : Value → Shared → Prop), Takes (X.tr pn xe) W → PSs (X.tr pn xe) bd (tb W))
    (hsu : ∀ (a : Addr) (oe : Obj) (cls : Value) (d : Option Addr) (pn : List (Addr × Obj)), Zc cls d oe → (∃ vs, oe.data = .fields vs) → PSs (X.suite a ((a, oe) :: pn)) (s₁ :: su) (ts a cls d)) :
    PS X (.Try bd (.ExceptHandler (some (.Name x np)) (some n) (s₁ :: su) p2 :: others) [] [] p1) (fun D σ H => tb (wTake X.K c i ts D) D σ H) := by
  refine ⟨fun pins s σ H D I start => wpAny_Try_except ?_⟩
  have ok := I.ok
  have frames : X.A.frames = some (X.env :: X.outer) := by rw [ok.frames, hs]
  let rest := (.ExceptHandler (some (.Name x np)) (some n) (s₁ :: su) p2 : ExceptHandler) :: others
  let go : Value → Shared → Prop := fun e sa => wpAny (model X.prog X.w) X.A (noteFrame e X.env)
    (fun _ sb => wpAny (model X.prog X.w) X.A (setFlight e none) (fun _ sc => wpAny (model X.prog X.w) X.A (handleBy e X.env rest) (SP X pins D) X.xe sc) X.xe sb) X.xe sa
  have caught : Takes (X.tr (X.pn ++ pins) go) (wTake X.K c i ts D) := by
    intro u sz q
    obtain ⟨a, B, sI, pins2, σ2, H2, cls, d, rfl, J0, nb, up, sky, na, os, ag, match_, wish⟩ := q
    have J : Inv X pins σ2 H2 sI := J0.ofTry ok
    have sky2 : Sky B (X.env :: X.outer) a (Zc cls d) X.env.locals sz.heap := by rw [← hs]; exact sky
    show wpAny (model X.prog X.w) X.A (noteFrame (.ref a) X.env) _ _ _
    refine Sky.land Zc.steady frames hf sky2 fun g fly up2 => ?_
    have J1 : Inv X pins σ2 H2 { sz with heap := g } := J.landed nb fly.1 (up.trans up2) os ag
    obtain ⟨o1, v1, there1, z1, dat1⟩ := fly.there
    have far := no_frame fly.2.2.1 there1 dat1
    have notL : a ≠ X.env.locals := fun z => far (List.mem_filterMap.mpr ⟨X.env, List.mem_cons_self, by rw [hf, z]⟩)
    have notF : a ∉ X.fs := fun hm => by
      obtain ⟨e, he, w⟩ := List.mem_filterMap.mp hm
      exact far (List.mem_filterMap.mpr ⟨e, List.mem_cons_of_mem _ he, w⟩)
    have S1 := J1.suite there1 dat1 na notL notF
    refine wpAny_handleBy_cons (codeAny_handlers_test ?_) (by intro w; cases w)
    have typ : PySem.W.Looks (model X.prog X.w) g (typeOf (.ref a)) cls := fun A Q E sq keep w => wpAny_typeOf_ref (keep _ _ there1) (by rw [z1.1]; exact w)
    have looks := PySem.W.exm_one (M := model X.prog X.w) (J1.kIn) typ match_
    have named : ∀ {Q : Value → Shared → Prop} {E : Value → Shared → Prop}, Q c { sz with heap := g } → wpAny (model X.prog X.w) (X.A.mark (some (.ref a))) (eval (.Name x np) X.env) Q E { sz with heap := g } := by
      intro Q E w
      obtain ⟨hg, hd, hm | ⟨hm, hv, hn⟩⟩ := hc
      · exact ld_glob (X := X.suite a ((a, o1) :: (X.pn ++ pins))) S1 hg hm w hd
      · exact ld_blt (X := X.suite a ((a, o1) :: (X.pn ++ pins))) S1 hg hm hv w hn hd
    refine named (looks.here (codeAny_handlers_suite_as (HandSPX.lands_againZ fly fun g2 fly2 up3 => ?_)))
    have J2 : Inv X pins σ2 H2 { sz with heap := g2 } := J.landed nb fly2.1 ((up.trans up2).trans up3) os ag
    obtain ⟨o2, v2, there2, z2, dat2⟩ := fly2.there
    have S2 := J2.suite there2 dat2 na notL notF
    refine store_ok (X := X.suite a ((a, o2) :: (X.pn ++ pins))) (v := .ref a) S2 hN hi (.inl hln) rfl (fun s5 S5 => ?_) (.inr hln)
    refine wpAny_mono ((hsu a o2 cls d (X.pn ++ pins) z2 ⟨_, dat2⟩).run [] s5 _ H2 _ S5 (wish a na)) (fun f s6 ends => ?_) (fun _ _ z => z.elim)
    have drop : ∀ {σ6 : L2.St} {H6 : Hp} {Q : Shared → Prop}, Inv (X.suite a ((a, o2) :: (X.pn ++ pins))) [] σ6 H6 s6 → (∀ s7, Inv X pins (σ6.set i none) H6 s7 → Q s7) →
        wpAny (model X.prog X.w) X.A (do bindName X.env n .none; unbindBehindTheSuite X.env n p2) (fun _ s7 => Q s7) X.xe s6 := fun S6 w => gone_ok (S6.unsuite ok) hN hi hln w
    cases f with
    | ret u => obtain ⟨v6, σ6, H6, S6, r6, w6⟩ := ends; exact drop S6 fun s7 J7 => ⟨_, _, _, J7, r6, w6⟩
    | next => obtain ⟨σ6, H6, S6, w6⟩ := ends; exact drop S6 fun s7 J7 => ⟨_, _, J7, w6⟩
    | brk => obtain ⟨σ6, H6, S6, w6⟩ := ends; exact drop S6 fun s7 J7 => ⟨_, _, J7, w6⟩
    | cont => obtain ⟨σ6, H6, S6, w6⟩ := ends; exact drop S6 fun s7 J7 => ⟨_, _, J7, w6⟩
  refine wpAny_mono ((hb _ _ go caught).run [] s σ H D (I.toTry _) start) (fun f sf ends => ?_) (fun e se he => he)
  cases f with
  | ret u => obtain ⟨v, σ3, H3, J3, r, w⟩ := ends; exact ⟨v, σ3, H3, J3.ofTry ok, r, w⟩
  | next => obtain ⟨σ3, H3, J3, w⟩ := ends; exact wpAny_execs_nil ⟨σ3, H3, J3.ofTry ok, w⟩
  | brk => obtain ⟨σ3, H3, J3, w⟩ := ends; exact ⟨σ3, H3, J3.ofTry ok, w⟩
  | cont => obtain ⟨σ3, H3, J3, w⟩ := ends; exact ⟨σ3, H3, J3.ofTry ok, w⟩
end
/-- over plain data -/
def offD (i : Nat) (D : DEnds) : DEnds := { nx := fun ρ S => D.nx (ρ.set i none) S, rt := D.rt, bk := fun ρ S => D.bk (ρ.set i none) S, ct := fun ρ S => D.ct (ρ.set i none) S }
def exTake (i : Nat) (tab : List (Value × Bool)) (s : Addr → Value → Option Addr → DS) (D : DEnds) (cls : Value) (da : Option Addr) (ρ : Rho) (S : Sto) : Prop := (cls, true) ∈ tab ∧ ∀ a, S a = none → s a cls da (offD i D) (ρ.set i (some (.ref a))) S
def dTake (b : DS) (i : Nat) (tab : List (Value × Bool)) (s : Addr → Value → Option Addr → DS) : DS := fun D ρ S => b { D with ex := exTake i tab s D } ρ S
theorem s_take (i : Nat) {X : Cx} {W : WX} {x n : Str} {c : Value} {bd su : List Stmt} {s₁ : Stmt} {np p1 p2 : Pos} {others : List ExceptHandler} {b : DS} {tab : List (Value × Bool)} {s : Addr → Value → Option Addr → DS} (hN : X.N.Nodup) (hc : Names X x c) (ht : ∀ p ∈ tab, PySem.W.exmOne X.K p.1 c = some p.2)
    (hb : ∀ (W' : WX) (pn : List (Addr × Obj)) (xe : Value → Shared → Prop), Takes (X.tr pn xe) W' → PSs (X.tr pn xe) bd (lowS X.K W' b))
    (hsu : ∀ (a : Addr) (oe : Obj) (cls : Value) (d : Option Addr) (pn : List (Addr × Obj)), Zc cls d oe → (∃ vs, oe.data = .fields vs) → PSs (X.suite a ((a, oe) :: pn)) (s₁ :: su) (lowS X.K W0 (s a cls d)))
    (hi : X.N[i]? = some n := by rfl) (hln : X.env.kindOf n = some .local := by rfl) (hs : X.stack = X.env :: X.outer := by rfl) (hf : X.env.frame = some X.env.locals := by rfl) :
    PS X (.Try bd (.ExceptHandler (some (.Name x np)) (some n) (s₁ :: su) p2 :: others) [] [] p1) (lowS X.K W (dTake b i tab s)) :=
  psi (ps_take (tb := fun W' => lowS X.K W' b) (ts := fun a cls d => lowS X.K W0 (s a cls d)) hs hf hN hi hln hc hb hsu) fun D σ H ⟨ρ, S, Dh, hσ, hS, h, k⟩ =>
    ⟨ρ, S, { Dh with ex := exTake i tab s Dh }, hσ, hS, h, ⟨k.nx, k.rt, k.bk, k.ct, fun cls da ρ' S' σ' H' ⟨q1, q2⟩ t r a => ⟨ht _ q1, fun e ne => ⟨_, S', _, r.set i (.ref e), a, q2 e (a.free ne),
      ⟨fun ρ2 S2 σ2 H2 q t2 r2 a2 => k.nx _ S2 _ H2 q (t.trans t2) (r2.setN i) a2, k.rt.mono t, fun ρ2 S2 σ2 H2 q t2 r2 a2 => k.bk _ S2 _ H2 q (t.trans t2) (r2.setN i) a2, fun ρ2 S2 σ2 H2 q t2 r2 a2 => k.ct _ S2 _ H2 q (t.trans t2) (r2.setN i) a2, fun _ _ _ _ _ _ q => q.elim⟩⟩⟩⟩⟩
end VD

namespace VD
open PySem PySem.Spec PyProof.Rows L2
/-! ### xs.extend(ys), ys a tuple or a list -/
section
variable {X : Cx} {K : PySem.W.Frag}
end
end VD

namespace VD
open PySem PySem.Spec PyProof.Rows L2
/-! ### lists by value -/
def FZ (v : V) (H1 : Hp) (Q : VK) : Prop := Q v H1 ∨ ∃ a u, v = .ref a ∧ H1 a = some u ∧ canFrz u = true ∧ ∀ o, Q v (upd H1 a (.frz o u))
section
variable {K : PySem.W.Frag} {H H1 : Hp} {S : Sto} {Qh : QD} {Q : VK} {p : Addr}
theorem tk_frz {u : HO} {o : Obj} (hp : H p = none) : Tk K H (upd (upd H p u) p (.frz o u)) := by
  rw [upd_upd]; exact Tk.new hp
/-- a new list that is frozen at once -/
theorem Lk.frzL (k : Lk K H Qh Q) {vs : List V} {ds : List Dv} (q : Qh (.rol ds) S) (hp : H p = none) (r : RepL K H vs ds) (a : Abs K H S) : FZ (.ref p) (upd H p (.lst vs)) Q := by
  refine .inr ⟨p, _, rfl, upd_same, rfl, fun o => ?_⟩
  have t : Tk K H (upd (upd H p (.lst vs)) p (.frz o (.lst vs))) := tk_frz hp
  refine k _ S _ _ q t (.rol (.inl ⟨o, upd_same⟩) (r.mono t)) fun b m hb => ?_
  refine (a b m hb).mono t fun z hz => ?_
  rw [upd_upd, upd_ne (ne_of_none hz hp)]
  exact hz
end
section
variable {X : Cx} {W : WX} {a b c e : Expr} {da db dc de : DE} {pos p : Pos} {es : List Expr} {das : DA} {x : Str} {id T : String}
theorem pe_fz {x : Expr} {t : TE} (h : PE X x t) : PE X x (fun σ H Q => t σ H fun v H1 => FZ v H1 Q) := pe_frz h
def dLstV (das : DA) : DE := fun ρ S Q X => das ρ S (fun ds S1 => ds.length ≤ sizeLine ∧ Q (.rol ds) S1) X
theorem d_lstV (h : PA X es (lowA X.K W das)) : PE X (.List es pos) (low X.K W (dLstV das)) := pei (pe_fz (pe_lst h)) fun σ H Q ⟨ρ, S, Qh, Xh, hσ, hS, h, k, x⟩ =>
  ⟨ρ, S, _, Xh, hσ, hS, h, fun ds S1 vs H1 q1 t1 r1 a1 => ⟨by rw [r1.length]; exact q1.1, fun p hp => (k.mono t1).frzL q1.2 hp r1 a1⟩, x⟩
/-- a two-place operator whose new list is frozen -/
def LR2V (K : PySem.W.Frag) (r : R2) (rd : RD2) : Prop := ∀ x y H dx dy S Qh Q, Rep K H x dx → Rep K H y dy → Abs K H S → rd dx dy S Qh → Lk K H Qh Q → r x y H fun v H1 => FZ v H1 Q
theorem d_opV {op : Operator} {r : R2} {rd : RD2} (ho : OpR X (binaryOp op) r) (hl : LR2V X.K r rd) (ha : PE X a (low X.K W da)) (hb : PE X b (low X.K W db)) : PE X (.BinOp a op b pos) (low X.K W (dOp rd da db)) := pei (pe_fz (pe_op ho ha hb)) fun σ H Q ⟨ρ, S, Qh, Xh, hσ, hS, h, k, x⟩ =>
  ⟨ρ, S, _, Xh, hσ, hS, h, fun d1 S1 v1 H1 q1 t1 r1 a1 => ⟨ρ, S1, _, Xh, hσ.mono t1, a1, q1, fun d2 S2 v2 H2 q2 t2 r2 a2 => hl v1 v2 H2 d1 d2 S2 Qh Q (r1.mono t2) r2 a2 q2 (k.mono (t1.trans t2)), x.mono t1⟩, x⟩
def rdAddV : RD2 := fun x y S Q => match x, y with
  | .int i, .int j => Q (.int (i + j)) S
  | .tup xs, .tup ys => xs.length + ys.length ≤ sizeLine ∧ Q (.tup (xs ++ ys)) S
  | .str a, .str b => a.length + b.length ≤ sizeLine ∧ Q (.str (a ++ b)) S
  | x, y => lstOf x S fun xs => lstOf y S fun ys => xs.length + ys.length ≤ sizeLine ∧ Q (.rol (xs ++ ys)) S
theorem Lk.fz {K : PySem.W.Frag} {H : Hp} {Qh : QD} {Q : VK} (k : Lk K H Qh Q) : Lk K H Qh fun v H1 => FZ v H1 Q := fun d S v H' q t r a => .inl (k d S v H' q t r a)
theorem l_addV {K : PySem.W.Frag} : LR2V K (rAddA K) rdAddV := by
  intro x y H dx dy S Qh Q rx ry hS h k
  have go : rdAdd dx dy S Qh → rAddA K x y H fun v H1 => FZ v H1 Q := fun h => l_add x y H dx dy S Qh _ rx ry hS h k.fz
  unfold rdAddV at h
  split at h
  · exact go h
  · exact go h
  · exact go h
  · obtain ⟨a, us, xs, rfl, l1, r1, h⟩ := lstOf_c rx hS h
    obtain ⟨b, vs, ys, rfl, l2, r2, h⟩ := lstOf_c ry hS h
    exact .inr (.inr (.inr ⟨a, b, us, vs, rfl, rfl, l1, l2, by rw [r1.length, r2.length]; exact h.1, fun p hp => k.frzL h.2 hp (r1.append r2) hS⟩))
/-- slices by value -/
def rdSlV (x : Dv) (lo hi : Option Int) (S : Sto) (Q : QD) : Prop := match x with
  | .tup xs => Q (.tup (cutD xs lo hi)) S
  | .str z => z.length ≤ sizeLine ∧ Q (.str (cutS z lo hi)) S
  | x => lstOf x S fun xs => Q (.rol (cutD xs lo hi)) S
def dSlV (de : DE) (dl dh : DO) : DE := fun ρ S Q X => de ρ S (fun d S1 => dl ρ S1 (fun lo S2 => dh ρ S2 (fun hi S3 => rdSlV d lo hi S3 Q) X) X) X
theorem l_slV {K : PySem.W.Frag} {x : V} {d : Dv} {lo hi : Option Int} {H : Hp} {S : Sto} {Qh : QD} {Q : VK} (rx : Rep K H x d) (hS : Abs K H S) (h : rdSlV d lo hi S Qh) (k : Lk K H Qh Q) : rSlAll K x lo hi H fun v H1 => FZ v H1 Q := by
  unfold rdSlV at h
  split at h
  · exact l_sl rx hS (by unfold rdSl; exact h) k.fz
  · exact l_sl rx hS (by unfold rdSl; exact h) k.fz
  · obtain ⟨a, us, xs, rfl, l1, r1, q⟩ := lstOf_c rx hS h
    exact .inr (.inl ⟨a, us, rfl, l1.sq, fun p hp => k.frzL q hp (cut_rep r1 lo hi) hS⟩)
theorem d_slV {lo hi : Option Expr} {dl dh : DO} {p2 : Pos} (he : PE X e (low X.K W da)) (hl : PO X lo (lowO X.K W dl)) (hu : PO X hi (lowO X.K W dh)) : PE X (.Subscript e (.Slice lo hi none p2) pos) (low X.K W (dSlV da dl dh)) := pei (pe_fz (pe_slice sl_all he hl hu)) fun σ H Q ⟨ρ, S, Qh, Xh, hσ, hS, h, k, x⟩ =>
  ⟨ρ, S, _, Xh, hσ, hS, h, fun d1 S1 v1 H1 q1 t1 r1 a1 => ⟨ρ, S1, _, Xh, hσ.mono t1, a1, q1, fun lo S2 H2 q2 t2 a2 => ⟨ρ, S2, _, Xh, hσ.mono (t1.trans t2), a2, q2, fun hi S3 H3 q3 t3 a3 =>
    l_slV (r1.mono (t2.trans t3)) a3 q3 (k.mono ((t1.trans t2).trans t3)), x.mono (t1.trans t2)⟩, x.mono t1⟩, x⟩
/-- built-ins whose new list is frozen -/
def LRCV (K : PySem.W.Frag) (r : List V → Hp → VK → Prop) (rd : RDC) : Prop := ∀ vs H ds S Qh Q, RepL K H vs ds → Abs K H S → rd ds S Qh → Lk K H Qh Q → r vs H fun v H1 => FZ v H1 Q
theorem d_callTyV {r : List V → Hp → VK → Prop} {rd : RDC} (hc : CallR X (.type T) r) (hl : LRCV X.K r rd) (hm : X.mg x = none) (hv : bootBuiltins x = some (.type T)) (ha : PA X (e :: es) (lowA X.K W das)) (hg : Gl X x := by rfl) (hn : x ≠ "__name__" := by decide) (hdb : (x == ("__debug__" : Str)) = false := by decide)
    (he : starEach (e :: es) X.env = (false, eval e X.env) :: starEach es X.env := by rfl) (hpl : (backTo pos (starEach es X.env)).any (·.1) = false := by rfl) : PE X (.Call (.Name x p) (e :: es) [] pos) (low X.K W (dCB rd das)) := pei (pe_fz (pe_callTy hc hg hm hv ha hn hdb he hpl)) fun σ H Q ⟨ρ, S, Qh, Xh, hσ, hS, h, k, x⟩ =>
  ⟨ρ, S, _, Xh, hσ, hS, h, fun ds S1 vs H1 q1 t1 r1 a1 => hl vs H1 ds S1 Qh Q r1 a1 q1 (k.mono t1), x⟩
def rdListV : RDC := fun ds S Q => match ds with
  | [d] => seqOf d S fun xs => Q (.rol xs) S
  | _ => False
theorem l_listV {K : PySem.W.Frag} : LRCV K (fun xs H Q => ∃ p ys, xs = [.ref p] ∧ (SqL K H p ys ∨ SqT K H p ys) ∧ ∀ l, H l = none → Q (.ref l) (upd H l (.lst ys))) rdListV := by
  intro vs H ds S Qh Q r hS h k
  unfold rdListV at h
  split at h
  · obtain ⟨v, rfl, rr⟩ := one_i r
    obtain ⟨a, us, xs, rfl, hl, rl, q⟩ := seqOf_i rr hS h
    exact ⟨a, us, rfl, hl, fun p hp => k.frzL q hp rl hS⟩
  · exact h.elim
/-! max, min of a list of ints -/
def rdMaxL : RDC := fun ds S Q => match ds with
  | [d] => lstOf d S fun xs => ∃ ns : List Int, xs = ns.map Dv.int ∧ 0 < ns.length ∧ ∀ m, m ∈ ns → (∀ y ∈ ns, y ≤ m) → Q (.int m) S
  | [.int i, .int j] => Q (.int (if j > i then j else i)) S
  | _ => False
def rdMinL : RDC := fun ds S Q => match ds with
  | [d] => lstOf d S fun xs => ∃ ns : List Int, xs = ns.map Dv.int ∧ 0 < ns.length ∧ ∀ m, m ∈ ns → (∀ y ∈ ns, m ≤ y) → Q (.int m) S
  | [.int i, .int j] => Q (.int (if j < i then j else i)) S
  | _ => False
/-! ### data -/
/-! repr -/
/-! x in xs -/
/-! ### a field as a target; o.f op= e -/
def gFldD (cs : List Addr) (f : Str) (dO : DE) : DG := fun d ρ S Q => dO ρ S (fun x S1 => match x with
  | .ref a => match S1 a with
    | some (.ins C dx fs) => C ∈ cs ∧ fs.length < 1000 ∧ Q ρ (put S1 a (.ins C dx (putFD f d fs)))
    | _ => False
  | _ => False) X0
def dAugF (cs : List Addr) (f : Str) (rd : RD2) (dO de : DE) : DS := fun D ρ S => dO ρ S (fun x S1 => match x with
  | .ref a => match S1 a with
    | some (.ins C dx fs) => C ∈ cs ∧ ∃ v, fs.lookup f = some v ∧ de ρ S1 (fun y S2 => rd v y S2 fun z S3 => match S3 a with
      | some (.ins C' dx' fs') => C' = C ∧ fs'.length < 1000 ∧ D.nx ρ (put S3 a (.ins C' dx' (putFD f z fs')))
      | _ => False) (D.xd ρ)
    | _ => False
  | _ => False) (D.xd ρ)
/-! ### xs.pop(i), xs.pop() -/
def rdPopAt : RDM := fun x ds S Q => match x, ds with
  | .ref a, [.int i] => match S a with
    | some (.lst xs) => ∃ j d, (-(2 ^ 63) ≤ i ∧ i < 2 ^ 63) ∧ seqIndex? i xs.length = some j ∧ xs[j]? = some d ∧ Q d (put S a (.lst (xs.eraseIdx j)))
    | _ => False
  | _, _ => False
end
/-! ### comprehensions whose list is frozen -/
section
variable {g : DG} {te : DE} {tt : DT} {vs : List Nat} {ρ : Rho} {Q : QD} {items : List Dv} {stay : Sto → Prop} {S : Sto}
theorem lcV_pure (f : Dv → Dv) (hl : items.length ≤ sizeLine) (hst : ∀ p m, S p = none → stay (put S p m)) (he : ∀ x ∈ items, ∀ (T : Sto) (K : QD), Sub S T → K (f x) T → g x (wipeD ρ vs) T fun ρ2 S2 => te ρ2 S2 K X0)
    (hQ : Q (.rol (items.map f)) S) : LcGo g dYes te vs ρ (fun d S1 => frzD d S1 Q) items stay S := lc_pure f hl hst he fun p hp => by
  unfold frzD
  dsimp only
  rw [put_same, rm_put hp]
  exact hQ
theorem lcV_filter (c : Dv → Bool) (f : Dv → Dv) (hl : items.length ≤ sizeLine) (hst : ∀ p m, S p = none → stay (put S p m))
    (he : ∀ x ∈ items, ∀ (T : Sto) (K : QD) (N : Sto → Prop), Sub S T → (c x = true → K (f x) T) → (c x = false → N T) → g x (wipeD ρ vs) T fun ρ2 S2 => tt ρ2 S2 (fun b S3 => if b = true then te ρ2 S3 K X0 else N S3) X0)
    (hQ : Q (.rol ((items.filter c).map f)) S) : LcGo g tt te vs ρ (fun d S1 => frzD d S1 Q) items stay S := lc_filter c f hl hst he fun p hp => by
  unfold frzD
  dsimp only
  rw [put_same, rm_put hp]
  exact hQ
end
/-! ### a def that forgets what it made -/
/-! ### xs.extend(ys), ys any sequence; list * int -/
section
variable {X : Cx} {K : PySem.W.Frag}
def rdExt : RDM := fun x ds S Q => match x, ds with
  | .ref a, [y] => match S a with
    | some (.lst xs) => seqOf y S fun ys => xs.length + ys.length ≤ sizeLine ∧ Q .non (put S a (.lst (xs ++ ys)))
    | _ => False
  | _, _ => False
def rRepC (K : PySem.W.Frag) : R2 := fun x y H Q => ∃ l k xs, x = .ref l ∧ y = .int k ∧ LC K H l xs ∧ (-(2 ^ 63) ≤ k ∧ k < 2 ^ 63) ∧ xs.length * k.toNat ≤ sizeLine ∧ ∀ p, H p = none → Q (.ref p) (upd H p (.lst (List.replicate k.toNat xs).flatten))
theorem op_repC : OpR X (binaryOp .Mult) (rRepC X.K) := by
  intro pins s σ H x y v u Q I rx ry h
  obtain ⟨l, k, xs, rfl, rfl, hx, ⟨h1, h2⟩, hz, q⟩ := h
  obtain rfl : v = Value.ref l := rx
  obtain ⟨t, rfl⟩ := (show ∃ t, u = Value.int k t from ry)
  obtain ⟨_, its, n, r, hl, e⟩ := hx.at_ I
  have few : its.toArray.size * k.toNat ≤ sizeLine := by rw [List.size_toArray, ← hl]; exact hz
  have cap : ¬ its.toArray.size * k.toNat > (2 ^ 63 - 1) / 8 := by
    have : (sizeLine : Nat) ≤ (2 ^ 63 - 1) / 8 := by decide
    omega
  have fit : ¬ (!Builtin.List.listFitsIndex k) = true := by rw [fitsIndex_both h1 h2]; decide
  have short : ¬ Builtin.List.listTooLong (its.toArray.size * k.toNat) = true := by rw [notLongL few]; decide
  have new : List.foldl (fun x1 x2 => x1 ++ x2) #[] (List.replicate (if its.toArray.isEmpty = true then 0 else k.toNat) its.toArray) = (List.replicate k.toNat its).flatten.toArray := by
    have f0 : ∀ m : Nat, List.foldl (fun x1 x2 => x1 ++ x2) #[] (List.replicate m its.toArray) = (List.replicate m its).flatten.toArray := fun m => by
      simpa using foldl_rep its m []
    rw [f0]
    cases its with
    | nil => simp
    | cons a r' => rw [if_neg (by simp)]
  refine wpAny_binaryOp_repeat_ref (T := "list") (U := "int") (by decide) ⟨_, e, rfl⟩ (fun s' => typeIs_int s' k t) noFill_list_mul F.fills_int_mul F.slot_int_rmul repeat_list F.slot_int_index.lookup (call_meets F.slot_int_rmul (typeIs_int s k t) F.entry_int_rmul (F.args_int_rmul_2 _ _) (int___rmul___int_list k t l its.toArray n) ⟨e, rfl, ⟨_, e, rfl⟩, call_meets F.slot_list_mul ⟨_, e, rfl⟩ F.entry_list_mul (F.args_list_mul_2 _ _) (AutoListH.list___mul___list_int_3 l its.toArray n k t fit cap short) ⟨e, ?_⟩⟩)
  rw [new]
  exact ⟨.ref _, _, I.lnew (t' := s.toks) (r.rep k.toNat) (by rw [PyProof.Rows.lm_len_rep_flat, Nat.mul_comm]; exact hz), rfl, q _ I.fresh⟩
/-- a tuple no time -/
theorem tuple_mul0 (l : Addr) (items : Array Value) (n : Nat) (dd : Option Addr) (sl : Array (Option Value)) (x : Int) (u : Tok) (c0 : (decide (x < -(2 ^ 63)) || decide (x ≥ 2 ^ 63)) = false) (c1 : (items.isEmpty || x == 1) = false) (c2 : (decide (x ≤ 0) || items.isEmpty) = true) :
    Meets (Builtin.«tuple.__mul__» ⟨[.ref l, .int x u], []⟩) (fun _ R s => s.heap.get? l = some { cls := .type "tuple", dict := dd, data := .seq items n, slots := sl } ∧
      R (.ok (.ret (Value.ref s.heap.objs.size))) { s with heap := s.heap.push { cls := Value.type "tuple", data := Data.seq #[] }, toks := s.toks }) :=
  .of_wp fun prog w A R s h => by
    obtain ⟨hp, g, d, tk, os⟩ := s
    obtain ⟨hl, h⟩ := h
    have f1 := AutoSeq1.idx_int
    wp_walk using wpAny_loadPart' hl
    repeat (first
      | (refine wpAny_ite_false (decide_eq_false (by rw [c0]; exact Bool.false_ne_true)) ?_; wp_walk using wpAny_loadPart' hl)
      | (refine wpAny_ite_false (decide_eq_false (by rw [c1]; exact Bool.false_ne_true)) ?_; wp_walk using wpAny_loadPart' hl)
      | (refine wpAny_ite_true (decide_eq_true c2) ?_; wp_walk using wpAny_loadPart' hl))
    exact ⟨_, rfl, h⟩
def rRep0 (K : PySem.W.Frag) : R2 := fun x y H Q => ∃ l k xs, x = .ref l ∧ y = .int k ∧ SqT K H l xs ∧ xs ≠ [] ∧ -(2 ^ 63) ≤ k ∧ k ≤ 0 ∧ ∀ p, H p = none → Q (.ref p) (upd H p (.tup []))
theorem op_rep0 : OpR X (binaryOp .Mult) (rRep0 X.K) := by
  intro pins s σ H x y v u Q I rx ry h
  obtain ⟨l, k, xs, rfl, rfl, hT, hne, h1, h2, q⟩ := h
  cases rx
  obtain ⟨t, rfl⟩ := ry
  obtain ⟨its, r, ⟨⟨cls, dd, data, sl⟩, ho, hc, n, hd⟩, hs⟩ := I.tuple hT
  simp only at hc hd
  subst hc hd
  have hn : its ≠ [] := fun e => by subst e; cases r; exact hne rfl
  have hi : its.toArray.isEmpty = false := by
    cases its with
    | nil => exact absurd rfl hn
    | cons a b => rfl
  have c0 : (decide (k < -(2 ^ 63)) || decide (k ≥ 2 ^ 63)) = false := by
    rw [decide_eq_false (by omega), decide_eq_false (by omega)] <;> rfl
  have c1 : (its.toArray.isEmpty || k == 1) = false := by
    rw [hi, Bool.false_or]
    exact beq_eq_false_iff_ne.mpr (by omega)
  have c2 : (decide (k ≤ 0) || its.toArray.isEmpty) = true := by
    rw [decide_eq_true h2] <;> rfl
  refine wpAny_binaryOp_repeat_ref (T := "tuple") (U := "int") (by decide) ⟨_, ho, rfl⟩ (fun s' => typeIs_int s' k t) noFill_tuple_mul F.fills_int_mul F.slot_int_rmul repeat_tuple F.slot_int_index.lookup
    (call_meets F.slot_int_rmul (typeIs_int s k t) F.entry_int_rmul (F.args_int_rmul_2 _ _) (int_rmul_tuple k t l its.toArray n dd sl)
      ⟨ho, rfl, ⟨_, ho, rfl⟩, call_meets F.slot_tuple_mul ⟨_, ho, rfl⟩ F.entry_tuple_mul (F.args_tuple_mul_2 _ _) (tuple_mul0 l its.toArray n dd sl k t c0 c1 c2) ⟨ho, ?_⟩⟩)
  refine ⟨.ref s.heap.objs.size, _, I.laid (t' := s.toks) (o := .tup []) (fun b ob q => Heap.get?_push_of_some _ q) (Nat.le_refl _) ?_, rfl, q _ (I.hok.fresh (Nat.le_refl _))⟩
  exact ⟨by simp, _, .nil, IsTup.new _ _⟩
abbrev rMulB (K : PySem.W.Frag) : R2 := fun x y H Q => rI IntMulOk (fun i j => .int (i * j)) x y H Q ∨ rRepS K x y H Q ∨ rRepT K x y H Q ∨ rRepC K x y H Q ∨ rRep0 K x y H Q
theorem op_mulB : OpR X (binaryOp .Mult) (rMulB X.K) := op_mulK.or (op_repS.or (op_repT.or (op_repC.or op_rep0)))
def rdMulV : RD2 := fun x y S Q => match x, y with
  | .int i, .int j => IntMulOk i j ∧ Q (.int (i * j)) S
  | .tup xs, .int k => (-(2 ^ 63) ≤ k ∧ k ≤ 1000 ∧ xs.length ≤ 1000 ∧ (1 ≤ k ∨ xs ≠ [])) ∧ Q (.tup (List.replicate k.toNat xs).flatten) S
  | x, .int k => lstOf x S fun xs => ((-(2 ^ 63) ≤ k ∧ k < 2 ^ 63) ∧ xs.length * k.toNat ≤ sizeLine) ∧ Q (.rol (List.replicate k.toNat xs).flatten) S
  | _, _ => False
theorem l_mulV : LR2V K (rMulB K) rdMulV := by
  intro x y H dx dy S Qh Q rx ry hS h k
  have go : rdMul dx dy S Qh → (∀ a, dx ≠ .ref a) → rMulB K x y H fun v H1 => FZ v H1 Q := fun h hn => by
    have z := l_mul x y H dx dy S Qh _ rx ry hS h k.fz
    rcases z with z | z | z | z
    · exact .inl z
    · exact .inr (.inl z)
    · exact .inr (.inr (.inl z))
    · unfold rdMul at h
      split at h
      · obtain ⟨l, k, xs, e, _⟩ := z; rw [rx.i_int] at e; cases e
      · obtain ⟨l, k, xs, e, e2, e3, b1, b2, b3, z⟩ := z
        exact .inr (.inr (.inr (.inl ⟨l, k, xs, e, e2, .inl e3, ⟨b1, b2⟩, b3, z⟩)))
      · exact absurd rfl (hn _)
      · exact h.elim
  unfold rdMulV at h
  split at h
  · exact go h (by intro a e; cases e)
  · rename_i xs m
    by_cases h1 : 1 ≤ m
    · exact go ⟨⟨h1, h.1.2.1, h.1.2.2.1⟩, h.2⟩ (by intro a e; cases e)
    · obtain ⟨a, us, rfl, ha, la⟩ := rx.i_tup
      have e0 : m.toNat = 0 := by omega
      have q := h.2
      rw [e0] at q
      cases xs with
      | nil =>
        rcases h.1.2.2.2 with z | z
        · exact absurd z h1
        · exact absurd rfl z
      | cons d ds =>
        refine .inr (.inr (.inr (.inr ⟨a, m, us, rfl, ry.i_int, ha, (fun z => by subst z; cases la), h.1.1, by omega, fun p hp => ?_⟩)))
        exact .inl (k _ _ _ _ q (Tk.new hp) (.tup (.inl (.inl upd_same)) .nil) (hS.tup hp))
  · obtain ⟨a, us, xs, rfl, l1, r1, hb, q⟩ := lstOf_c rx hS h
    exact .inr (.inr (.inr (.inl ⟨a, _, us, rfl, ry.i_int, l1, hb.1, by rw [r1.length]; exact hb.2, fun p hp => k.frzL q hp (r1.rep _) hS⟩)))
  · exact h.elim
end
end VD

namespace VD
open PySem PySem.Spec PyProof.Rows L2
/-- where the classes of the program stand -/
structure Ad where
  WorldError : Addr
  NoNumber : Addr
  NoSeed : Addr
  BadGround : Addr
  BadProgram : Addr
  BadKind : Addr
  BadGame : Addr
  NoWorld : Addr
  NoBody : Addr
  NoWay : Addr
  NoInputs : Addr
  NoHandler : Addr
  NoCode : Addr
  NoRows : Addr
  NoRow : Addr
  NoPlace : Addr
  BadRow : Addr
  BadChange : Addr
  NoSeat : Addr
  NotWaiting : Addr
  NoTick : Addr
  NotOpen : Addr
  Gap : Addr
  BadDeed : Addr
  NoBook : Addr
  NoPeer : Addr
  NoRules : Addr
  NoPast : Addr
  NoLetter : Addr
  NoDeed : Addr
  BadDeeds : Addr
  NoCut : Addr
  NoBlocks : Addr
  NoDisk : Addr
  OtherMatch : Addr
  BadTurns : Addr
  OtherGame : Addr
  Strayed : Addr
  NoNode : Addr
  NoReplay : Addr
  NoExpression : Addr
  BadText : Addr
  NoProgram : Addr
  NoPicture : Addr
  Unlike : Addr
  NoChanges : Addr
  NoLine : Addr
  NoName : Addr
  Ground : Addr
  Program : Addr
  Kind : Addr
  Game : Addr
  World : Addr
  Moving : Addr
  Standing : Addr
  Effects : Addr
  Machine : Addr
  Reader : Addr
  Book : Addr
  Timeline : Addr
  Known : Addr
  Host : Addr
  Heard : Addr
  Gathering : Addr
  Peer : Addr
  Net : Addr
  Disk : Addr
  SavedHost : Addr
  SavedPeer : Addr
  Replay : Addr
  Reel : Addr
  Node : Addr
  Branches : Addr
  Mixer : Addr
  Handlers : Addr
  GameReader : Addr
  Screen : Addr
  Desk : Addr
  ot : OTab
def ad0 : Ad := { WorldError := 0, NoNumber := 0, NoSeed := 0, BadGround := 0, BadProgram := 0, BadKind := 0, BadGame := 0, NoWorld := 0, NoBody := 0, NoWay := 0, NoInputs := 0, NoHandler := 0, NoCode := 0, NoRows := 0, NoRow := 0, NoPlace := 0, BadRow := 0, BadChange := 0, NoSeat := 0, NotWaiting := 0, NoTick := 0, NotOpen := 0, Gap := 0, BadDeed := 0, NoBook := 0, NoPeer := 0, NoRules := 0, NoPast := 0, NoLetter := 0, NoDeed := 0, BadDeeds := 0, NoCut := 0, NoBlocks := 0, NoDisk := 0, OtherMatch := 0, BadTurns := 0, OtherGame := 0, Strayed := 0, NoNode := 0, NoReplay := 0, NoExpression := 0, BadText := 0, NoProgram := 0, NoPicture := 0, Unlike := 0, NoChanges := 0, NoLine := 0, NoName := 0, Ground := 0, Program := 0, Kind := 0, Game := 0, World := 0, Moving := 0, Standing := 0, Effects := 0, Machine := 0, Reader := 0, Book := 0, Timeline := 0, Known := 0, Host := 0, Heard := 0, Gathering := 0, Peer := 0, Net := 0, Disk := 0, SavedHost := 0, SavedPeer := 0, Replay := 0, Reel := 0, Node := 0, Branches := 0, Mixer := 0, Handlers := 0, GameReader := 0, Screen := 0, Desk := 0, ot := ⟨[], []⟩ }
section
variable {X : Cx} {W : WX} {a b c e o : Expr} {da db dc de : DE} {pos p apos : Pos} {es : List Expr} {das : DA} {x m f : Str} {k : Nat} {g C : Addr} {fd : FuncData} {ps : List Str}
theorem fcs_nil {K : PySem.W.Frag} {f : Str} : ∀ C ∈ ([] : List Addr), Cls K C ∧ NoAttr K C f := fun _ h => by cases h
theorem fcs_cons {K : PySem.W.Frag} {f : Str} {C : Addr} {cs : List Addr} (c : Cls K C) (n : NoAttr K C f) (r : ∀ C ∈ cs, Cls K C ∧ NoAttr K C f) : ∀ D ∈ C :: cs, Cls K D ∧ NoAttr K D f := fun D h => by
  rcases List.mem_cons.mp h with rfl | h
  · exact ⟨c, n⟩
  · exact r D h
/-! C(..), by a promise of the whole -/
theorem low_mkM {spI spC : SpD} (hC : ∀ vs S Q Z, spC vs S Q Z → ∀ x dx, S x = none → S dx = none → dx ≠ x → spI (.ref x :: vs) (put S x (.ins C dx [])) (fun v S2 => v = .non ∧ Q (.ref x) S2) Z) :
    ∀ σ H Q, low X.K W (dCall spC das) σ H Q → tMakeG C (lowF X.K spI) (WE W) (lowA X.K W das) σ H Q := fun σ H Q ⟨ρ, S, Qh, Xh, hσ, hS, h, k, x⟩ =>
  ⟨ρ, S, _, Xh, hσ, hS, h, fun ds S1 vs H1 q1 t1 r1 a1 y dx ny nd ne => by
    have t2 : Tk X.K H1 (upd H1 dx (.own y)) := Tk.new nd
    have n2 : upd H1 dx (.own y) y = none := by rw [upd_ne ne.symm]; exact ny
    have t3 := t2.trans (Tk.new (o := .ins C dx []) n2)
    refine ⟨_, _, _, Xh, .cons (.ref y) (r1.mono t3), (a1.tup nd).new n2 (.mins upd_same .nil), hC ds S1 Qh Xh q1 y dx (a1.free ny) (a1.free nd) ne, fun d S' v H' q t r a => ?_, (x.mono t1).mono t3⟩
    obtain ⟨rfl, q⟩ := q
    exact ⟨r.i_non, k _ _ _ _ q ((t1.trans t3).trans t) (.ref y) a⟩, x⟩
theorem d_mkM {spI spC : SpD} {fI : Addr} (hC : ∀ vs S Q Z, spC vs S Q Z → ∀ x dx, S x = none → S dx = none → dx ≠ x → spI (.ref x :: vs) (put S x (.ins C dx [])) (fun v S2 => v = .non ∧ Q (.ref x) S2) Z)
    (M : Mk X.K C fI) (F : FnD X.prog X.w X.K X.mg X.base k fI fd ps spI) (hr : RoomG (k + 1) X.A) (hm : X.mg x = some (.ref C)) (hb : Binds X.K fd ps []) (tk : Takes X W) (ha : PA X (e :: es) (lowA X.K W das)) (hg : Gl X x := by rfl)
    (hdb : (x == ("__debug__" : Str)) = false := by decide) (he : starEach (e :: es) X.env = (false, eval e X.env) :: starEach es X.env := by rfl) (hpl : (backTo pos (starEach es X.env)).any (·.1) = false := by rfl) :
    PE X (.Call (.Name x p) (e :: es) [] pos) (low X.K W (dCall spC das)) := pei (pe_makeG (E := WE W) M F hr hg hm hb (fun σ => passAt tk σ) ha hdb he hpl) (low_mkM hC)
end
theorem ot_nil {K : PySem.W.Frag} : ∀ C ∈ ([] : List Addr), OwnT K C := fun _ h => by cases h
theorem ot_own {K : PySem.W.Frag} {C : Addr} {cs : List Addr} (h : OwnT K C) (r : ∀ C ∈ cs, OwnT K C) : ∀ D ∈ C :: cs, OwnT K D := fun D q => by
  rcases List.mem_cons.mp q with rfl | q
  · exact h
  · exact r D q
theorem ot_nil2 {K : PySem.W.Frag} : ∀ p ∈ ([] : List (Addr × Addr × Bool)), PySem.W.kitOne K (.ref p.1) (.ref p.2.1) = some p.2.2 := fun _ h => by cases h
theorem ot_sub {K : PySem.W.Frag} {C D : Addr} {b : Bool} {cs : List (Addr × Addr × Bool)} (h : PySem.W.kitOne K (.ref C) (.ref D) = some b) (r : ∀ p ∈ cs, PySem.W.kitOne K (.ref p.1) (.ref p.2.1) = some p.2.2) : ∀ p ∈ (C, D, b) :: cs, PySem.W.kitOne K (.ref p.1) (.ref p.2.1) = some p.2.2 := fun p q => by
  rcases List.mem_cons.mp q with rfl | q
  · exact h
  · exact r p q
theorem kit_self {K : PySem.W.Frag} {C : Addr} : PySem.W.kitOne K (.ref C) (.ref C) = some true := by
  unfold PySem.W.kitOne
  rw [if_pos (by simp)]
theorem nb6 {K : PySem.W.Frag} {C : Addr} (h1 : PySem.W.mroIn K C (.type "int") = some false) (h2 : PySem.W.mroIn K C (.type "bool") = some false) (h3 : PySem.W.mroIn K C (.type "str") = some false) (h4 : PySem.W.mroIn K C (.type "tuple") = some false)
    (h5 : PySem.W.mroIn K C (.type "list") = some false) (h6 : PySem.W.mroIn K C (.type "dict") = some false) : ∀ n ∈ tyNames, PySem.W.mroIn K C (.type n) = some false := by
  intro n hn
  simp only [tyNames, List.mem_cons, List.not_mem_nil, or_false] at hn
  rcases hn with rfl | rfl | rfl | rfl | rfl | rfl <;> assumption
end VD

/-! fields of the program's classes, printed by cls.py -/
namespace VD
open PySem PySem.Spec PyProof.Rows L2
theorem ex_one {C : Addr} {s : SpD} {P : SpD → Prop} : (∃ sp, (C, sp) ∈ [(C, s)] ∧ P sp) = P s := propext ⟨fun ⟨sp, h, p⟩ => by rw [List.mem_singleton] at h; cases h; exact p, fun p => ⟨s, List.mem_singleton.mpr rfl, p⟩⟩
theorem mem_one {C : Addr} : (C ∈ [C]) = True := eq_true (by simp)
def o_Ground (d0 d1 d2 : Dv) : List (Str × Dv) := [(Str.ofString "rows", d0), (Str.ofString "wide", d1), (Str.ofString "high", d2)]
def v_Ground (A : Ad) (d0 d1 d2 : Dv) : Dv := .obj A.Ground ((o_Ground d0 d1 d2).map (·.1)) ((o_Ground d0 d1 d2).map (·.2))
theorem i_Ground {A : Ad} {d0 d1 d2 : Dv} {S : Sto} {R : Addr → List Str → List Dv → Prop} : insOf (v_Ground A d0 d1 d2) S R = R A.Ground ((o_Ground d0 d1 d2).map (·.1)) ((o_Ground d0 d1 d2).map (·.2)) := rfl
theorem l_Ground {d0 d1 d2 : Dv} : ((o_Ground d0 d1 d2).length < 1000) = True := eq_true (by show 3 < 1000; decide)
theorem h_Ground_eq {d0 d1 d2 : Dv} : (getF (Str.ofString "__eq__") ((o_Ground d0 d1 d2).map (·.1)) ((o_Ground d0 d1 d2).map (·.2)) = none) = True := eq_true rfl
theorem g_Ground_rows {d0 d1 d2 : Dv} : getF (Str.ofString "rows") ((o_Ground d0 d1 d2).map (·.1)) ((o_Ground d0 d1 d2).map (·.2)) = some d0 := rfl
theorem p_Ground_rows {d0 d1 d2 x : Dv} : putFD (Str.ofString "rows") x (o_Ground d0 d1 d2) = o_Ground x d1 d2 := rfl
theorem k_Ground_rows {d0 d1 d2 : Dv} : (o_Ground d0 d1 d2).lookup (Str.ofString "rows") = some d0 := rfl
theorem n_Ground_rows {x : Dv} : putFD (Str.ofString "rows") x [] = [(Str.ofString "rows", x)] := rfl
theorem g_Ground_wide {d0 d1 d2 : Dv} : getF (Str.ofString "wide") ((o_Ground d0 d1 d2).map (·.1)) ((o_Ground d0 d1 d2).map (·.2)) = some d1 := rfl
theorem p_Ground_wide {d0 d1 d2 x : Dv} : putFD (Str.ofString "wide") x (o_Ground d0 d1 d2) = o_Ground d0 x d2 := rfl
theorem k_Ground_wide {d0 d1 d2 : Dv} : (o_Ground d0 d1 d2).lookup (Str.ofString "wide") = some d1 := rfl
theorem n_Ground_wide {d0 x : Dv} : putFD (Str.ofString "wide") x [(Str.ofString "rows", d0)] = [(Str.ofString "rows", d0), (Str.ofString "wide", x)] := rfl
theorem g_Ground_high {d0 d1 d2 : Dv} : getF (Str.ofString "high") ((o_Ground d0 d1 d2).map (·.1)) ((o_Ground d0 d1 d2).map (·.2)) = some d2 := rfl
theorem p_Ground_high {d0 d1 d2 x : Dv} : putFD (Str.ofString "high") x (o_Ground d0 d1 d2) = o_Ground d0 d1 x := rfl
theorem k_Ground_high {d0 d1 d2 : Dv} : (o_Ground d0 d1 d2).lookup (Str.ofString "high") = some d2 := rfl
theorem n_Ground_high {d0 d1 x : Dv} : putFD (Str.ofString "high") x [(Str.ofString "rows", d0), (Str.ofString "wide", d1)] = o_Ground d0 d1 x := rfl
end VD

namespace VD
open PySem PySem.Spec PyProof.Rows L2
/-! ### try with clauses with and without names, in any order; each exception of the body is taken by one of them -/
abbrev MixL := List (Value × Option Nat × (Addr → Value → Option Addr → TS))
def wMix (K : PySem.W.Frag) (D : Ends) : MixL → WX
  | [] => fun _ _ _ _ => False
  | (c, o, ts) :: r => fun cls d σ H => ∃ b, PySem.W.exmOne K cls c = some b ∧ (b = true → ∀ a, H a = none → match o with
      | none => ts a cls d D σ H
      | some i => ts a cls d (offSlot i D) (σ.set i (some (.ref a))) H) ∧ (b = false → wMix K D r cls d σ H)
inductive MixOk (X : Cx) : List ExceptHandler → MixL → Prop
  | nil : MixOk X [] []
  | un {x : Str} {c : Value} {ts : Addr → Value → Option Addr → TS} {b₀ : Stmt} {su : List Stmt} {np p2 : Pos} {hds : List ExceptHandler} {l : MixL} (hc : Names X x c)
      (hsu : ∀ (a : Addr) (oe : Obj) (cls : Value) (d : Option Addr) (pn : List (Addr × Obj)), Zc cls d oe → (∃ vs, oe.data = .fields vs) → PSs (X.suite a ((a, oe) :: pn)) (b₀ :: su) (ts a cls d)) (r : MixOk X hds l) :
      MixOk X (.ExceptHandler (some (.Name x np)) none (b₀ :: su) p2 :: hds) ((c, none, ts) :: l)
  | nm {x n : Str} {c : Value} {i : Nat} {ts : Addr → Value → Option Addr → TS} {b₀ : Stmt} {su : List Stmt} {np p2 : Pos} {hds : List ExceptHandler} {l : MixL} (hc : Names X x c) (hi : X.N[i]? = some n) (hln : X.env.kindOf n = some .local)
      (hsu : ∀ (a : Addr) (oe : Obj) (cls : Value) (d : Option Addr) (pn : List (Addr × Obj)), Zc cls d oe → (∃ vs, oe.data = .fields vs) → PSs (X.suite a ((a, oe) :: pn)) (b₀ :: su) (ts a cls d)) (r : MixOk X hds l) :
      MixOk X (.ExceptHandler (some (.Name x np)) (some n) (b₀ :: su) p2 :: hds) ((c, some i, ts) :: l)
section
variable {X : Cx} {bd : List Stmt} {h₀ : ExceptHandler} {hds : List ExceptHandler} {l : MixL} {p1 : Pos} {tb : WX → TS}
end
/-! over plain data -/
abbrev MixD := List (List (Value × Bool) × Option Nat × (Addr → Value → Option Addr → DS))
def wMixD (D : DEnds) : MixD → Value → Option Addr → Rho → Sto → Prop
  | [] => fun _ _ _ _ => False
  | (tab, o, s) :: r => fun cls da ρ S => ∃ b, (cls, b) ∈ tab ∧ (b = true → ∀ a, S a = none → match o with
      | none => s a cls da { D with ex := fun _ _ _ _ => False } ρ S
      | some i => s a cls da (offD i D) (ρ.set i (some (.ref a))) S) ∧ (b = false → wMixD D r cls da ρ S)
inductive HdsM (X : Cx) : List ExceptHandler → MixD → MixL → Prop
  | nil : HdsM X [] [] []
  | un {x : Str} {c : Value} {s : Addr → Value → Option Addr → DS} {tab : List (Value × Bool)} {b₀ : Stmt} {su : List Stmt} {np p2 : Pos} {hds : List ExceptHandler} {l : MixD} {l' : MixL}
      (hc : Names X x c) (ht : ∀ p ∈ tab, PySem.W.exmOne X.K p.1 c = some p.2)
      (hsu : ∀ (a : Addr) (oe : Obj) (cls : Value) (d : Option Addr) (pn : List (Addr × Obj)), Zc cls d oe → (∃ vs, oe.data = .fields vs) → PSs (X.suite a ((a, oe) :: pn)) (b₀ :: su) (lowS X.K W0 (s a cls d))) (r : HdsM X hds l l') :
      HdsM X (.ExceptHandler (some (.Name x np)) none (b₀ :: su) p2 :: hds) ((tab, none, s) :: l) ((c, none, fun a cls d => lowS X.K W0 (s a cls d)) :: l')
  | nm {x n : Str} {c : Value} {i : Nat} {s : Addr → Value → Option Addr → DS} {tab : List (Value × Bool)} {b₀ : Stmt} {su : List Stmt} {np p2 : Pos} {hds : List ExceptHandler} {l : MixD} {l' : MixL}
      (hc : Names X x c) (ht : ∀ p ∈ tab, PySem.W.exmOne X.K p.1 c = some p.2)
      (hsu : ∀ (a : Addr) (oe : Obj) (cls : Value) (d : Option Addr) (pn : List (Addr × Obj)), Zc cls d oe → (∃ vs, oe.data = .fields vs) → PSs (X.suite a ((a, oe) :: pn)) (b₀ :: su) (lowS X.K W0 (s a cls d)))
      (r : HdsM X hds l l') (hi : X.N[i]? = some n := by rfl) (hln : X.env.kindOf n = some .local := by rfl) :
      HdsM X (.ExceptHandler (some (.Name x np)) (some n) (b₀ :: su) p2 :: hds) ((tab, some i, s) :: l) ((c, some i, fun a cls d => lowS X.K W0 (s a cls d)) :: l')
theorem HdsM.ok {X : Cx} {hds : List ExceptHandler} {l : MixD} {l' : MixL} (h : HdsM X hds l l') : MixOk X hds l' := by
  induction h with
  | nil => exact .nil
  | un hc ht hsu r ih => exact .un hc hsu ih
  | nm hc ht hsu r hi hln ih => exact .nm hc hi hln hsu ih
theorem HdsM.go {X : Cx} {W : WX} {H : Hp} {Dh : DEnds} {D : Ends} (k : LkS X.K W H Dh D) {hds : List ExceptHandler} {l : MixD} {l' : MixL} (h : HdsM X hds l l') :
    ∀ cls da, LkG X.K H (wMixD Dh l cls da) (wMix X.K D l' cls da) := by
  induction h with
  | nil => exact fun cls da ρ S σ' H' w => w.elim
  | un hc ht hsu r ih =>
    intro cls da ρ S σ' H' ⟨b, hb, hy, hn⟩ t rs a
    refine ⟨b, ht _ hb, fun e p hp => ⟨ρ, S, _, rs, a, hy e p (a.free hp), ⟨k.nx.mono t, k.rt.mono t, k.bk.mono t, k.ct.mono t, fun _ _ _ _ _ _ q => q.elim⟩⟩, fun e => ih cls da ρ S σ' H' (hn e) t rs a⟩
  | @nm x n c i s tab b₀ su np p2 hds l l' hc ht hsu r hi hln ih =>
    intro cls da ρ S σ' H' ⟨b, hb, hy, hn⟩ t rs a
    refine ⟨b, ht _ hb, fun e p hp => ⟨_, S, _, rs.set i (.ref p), a, hy e p (a.free hp), ⟨fun ρ2 S2 σ2 H2 q t2 r2 a2 => k.nx _ S2 _ H2 q (t.trans t2) (r2.setN i) a2, k.rt.mono t, fun ρ2 S2 σ2 H2 q t2 r2 a2 => k.bk _ S2 _ H2 q (t.trans t2) (r2.setN i) a2, fun ρ2 S2 σ2 H2 q t2 r2 a2 => k.ct _ S2 _ H2 q (t.trans t2) (r2.setN i) a2, fun _ _ _ _ _ _ q => q.elim⟩⟩,
      fun e => ih cls da ρ S σ' H' (hn e) t rs a⟩
/-! isinstance of the caught exception -/
end VD

namespace VD
open PySem PySem.Spec PySem.Calls PyProof.Rows L2
/-! ### enumerate over a tuple -/
set_option maxHeartbeats 1000000 in
theorem meets_enum1 {v : Value} {o : Obj} {B : Heap → Prop} (b : Begins v o B) :
    Meets (Builtin.«enumerate.__new__» ⟨[.type "enumerate", v], []⟩) (fun _ R s => B s.heap ∧
      R (.ok (.ret (.ref (s.heap.push o).objs.size))) { s with heap := (s.heap.push o).push { cls := .type "enumerate", data := .fields #[.none, .bool false, .ref s.heap.objs.size, rawInt 0, .none, .none] } }) :=
  .of_wp fun prog w A R s h => by
    obtain ⟨hp, g, d, tk, os⟩ := s
    obtain ⟨h1, h⟩ := h
    have hsub := sub_enumerate
    have it : ∀ {A' : Around} {E : Value → Shared → Prop} {Q : Value → Shared → Prop}, Q (.ref hp.objs.size) ⟨hp.push o, g, d, tk, os⟩ → wpAny (model prog w) A' (pyIter v) Q E ⟨hp, g, d, tk, os⟩ :=
      fun q => b.iter prog w _ _ ⟨hp, g, d, tk, os⟩ _ h1 q
    wp_walk using it
    refine wpAny_stack_any fun st => wpAny_pure ?_
    split
    · rename_i c _ _ _ _ _
      cases (c == Value.type "enumerate") <;> (wp_walk using it; exact ⟨_, rfl, h⟩)
    · wp_walk using it
      exact ⟨_, rfl, h⟩
section
variable {prog : Program} {w : World} {A : Around} {E : Value → Shared → Prop} {s : Shared}
theorem call_enum1 {v : Value} {o : Obj} {B : Heap → Prop} {Q : Value → Shared → Prop} (b : Begins v o B) (h1 : B s.heap)
    (h : ∀ h', IsEnum h' (s.heap.objs.size + 1) s.heap.objs.size 0 .none → h'.get? s.heap.objs.size = some o → (∀ c o', s.heap.get? c = some o' → h'.get? c = some o') → Q (.ref (s.heap.objs.size + 1)) { s with heap := h' }) :
    wpAny (model prog w) A (call (.type "enumerate") [v]) Q E s := by
  refine callType_new F.called_enumerate (by decide) (F.typeCall_enumerate_1 _) (F.newCall_enumerate_1 _) (fun obj => F.args_object_init_2 obj _) F.entry_enumerate_new (meets_enum1 b) ⟨h1, ?_⟩
  have hz : (s.heap.push o).objs.size = s.heap.objs.size + 1 := Heap.size_push ..
  show _ ∧ _
  rw [hz]
  have he : IsEnum ((s.heap.push o).push { cls := .type "enumerate", data := .fields #[.none, .bool false, .ref s.heap.objs.size, rawInt 0, .none, .none] }) (s.heap.objs.size + 1) s.heap.objs.size 0 .none := by
    have := Heap.get?_push_size (s.heap.push o) (o := { cls := .type "enumerate", data := .fields #[.none, .bool false, .ref s.heap.objs.size, rawInt 0, .none, .none] }) rfl
    rw [hz] at this; exact this
  exact ⟨⟨_, he, rfl⟩, h _ he (Heap.get?_push_of_some _ (Heap.get?_push_size _ b.free)) fun c o' x => Heap.get?_push_of_some _ (Heap.get?_push_of_some _ x)⟩
end
def IteT (K : PySem.W.Frag) (a : Addr) : It :=
  ⟨fun i H => ∃ (xs : List V) (x : V), SqT K H a xs ∧ xs[i]? = some x, fun i H v H' => ∃ T x, v = .ref T ∧ H T = none ∧ H' = upd H T (.tup [.int (i : Nat), x]) ∧ ∀ xs, SqT K H a xs → xs[i]? = some x, fun i H => ∃ xs : List V, SqT K H a xs ∧ xs.length = i⟩
theorem turn_enumT {P : Program} {w : World} {K : PySem.W.Frag} {elts : List Expr} {kk : Nat} {tpos : Pos} (a e it : Addr) :
    Turn P w K (.Tuple elts kk tpos) (IteT K a) [e, it] e (fun i h => (∃ old, IsEnum h e it ((i : Nat) : Int) old) ∧ h.IsTupleIter it a i ∧ e ≠ it ∧ e ≠ a ∧ a ≠ it) where
  mem := by simp
  obj := fun i h st b hb => by
    obtain ⟨⟨old, he⟩, ⟨o, ho, hc, hd⟩, _⟩ := st
    have e' : b = e ∨ b = it := by simpa using hb
    rcases e' with z | z
    · rw [z]; exact ⟨_, he, fun v q => nomatch q⟩
    · rw [z]; exact ⟨o, ho, fun v q => by rw [hd] at q; cases q⟩
  keep := fun i h h' st k => let ⟨⟨old, he⟩, hi, r⟩ := st; ⟨⟨old, k e (by simp) _ he⟩, hi.at fun o q => k it (by simp) o q, r⟩
  item := by
    intro X hP hw hK hc i pins s σ H E I hf st hg
    subst hP hw hK
    obtain ⟨⟨old, he⟩, hit, hne, hea, hai⟩ := st
    obtain ⟨xs, x, hq, hx⟩ := hg
    obtain ⟨its, rv, p, hz⟩ := I.tuple hq
    obtain ⟨u, hu, ru⟩ := rv.get hx
    have hel : e < s.heap.objs.size := Heap.lt_size he
    have hil : it < s.heap.objs.size := by obtain ⟨_, q, _⟩ := hit; exact Heap.lt_size q
    have D := Draws.tuple (prog := X.prog) (w := X.w) (A := X.A.in1) (by have := I.ok.hd hc; simp [this]) it a hai its.toArray
    refine wpAny_pyNext_enum_itemD D he ⟨hit, p⟩ (by rw [List.size_toArray]; exact (List.getElem?_eq_some_iff.mp hu).1) hne (by simp [hne, hea]) fun y h' tk hy ho hst hT hsz hk => ?_
    have ey : y = u := by
      have : its.toArray[i]? = some y := hy
      rw [List.getElem?_toArray, hu] at this
      exact (Option.some.inj this).symm
    subst ey
    refine ⟨_, rfl, wpAny_letOwnedTupleGo_enum (s := { s with heap := h', toks := tk + 1 }) ho fun h'' he' sb => ?_⟩
    have hT2 : h''.get? s.heap.objs.size = some { cls := .type "tuple", data := .seq #[.int i tk, y] } := (sb.2 _ (Nat.ne_of_gt hel)).trans hT
    have new : ObjOk X.prog X.w (upd H s.heap.objs.size (.tup [.int (i : Nat), x])) h'' s.heap.objs.size (.tup [.int (i : Nat), x]) :=
      ⟨by show 2 ≤ sizeLine; decide, [.int i tk, y], .cons ⟨_, rfl⟩ (.cons ru .nil), ⟨_, hT2, rfl, _, rfl⟩⟩
    have I1 : Inv X pins σ (upd H s.heap.objs.size (.tup [.int (i : Nat), x])) { s with heap := h'', toks := tk + 1 } :=
      I.turnedNew (ch := [e, it]) (fun b ob hb q => (sb.2 b (fun z => hb (by simp [z]))).trans (hk b ob (fun z => hb (by simp [z])) (fun z => hb (by simp [z])) q)) hf (Nat.le_refl _) new
    refine ⟨.ref s.heap.objs.size, _, I1, rfl, ⟨_, x, rfl, I.hok.fresh (Nat.le_refl _), rfl, fun ys hy => ?_⟩, ⟨⟨y, ?_⟩, hst.1.at fun o q => (sb.2 it (Ne.symm hne)).trans q, hne, hea, hai⟩, fun b hb => ?_⟩
    · rw [I.tuple_inj hy hq]; exact hx
    · have e1 : ((i + 1 : Nat) : Int) = (i : Int) + 1 := by omega
      rw [e1]; exact he'
    · have hb' : b < s.heap.objs.size := by
        have e' : b = e ∨ b = it := by simpa using hb
        rcases e' with z | z
        · rw [z]; exact hel
        · rw [z]; exact hil
      rw [upd_ne (Nat.ne_of_lt hb')]
      exact (hf b hb).1
  done := by
    intro X hP hw hK hc i pins s σ H E I hf st hg
    subst hP hw hK
    obtain ⟨⟨old, he⟩, hit, hne, hea, hai⟩ := st
    obtain ⟨xs, hq, hx⟩ := hg
    obtain ⟨its, rv, p, hz⟩ := I.tuple hq
    obtain ⟨f0, f1, f2, f3, f4, f5⟩ := hf it (by simp)
    have hl := rv.length
    have D := Draws.tuple (prog := X.prog) (w := X.w) (A := X.A.in1) (by have := I.ok.hd hc; simp [this]) it a hai its.toArray
    have hn : its.toArray.size = i := by rw [List.size_toArray, ← hl]; exact hx
    exact wpAny_pyNext_enum_endD D he (by rw [hn]; exact ⟨hit, p⟩) fun h' eb => ⟨rfl, I.turned (t' := s.toks) (fun b o hb q => eb b o hb q) f0 f1 f3 f4 f5⟩
  self := fun A i s Q E st h => let ⟨⟨_, he⟩, _⟩ := st; wpAny_pyIter_enum he h
def iEnumB (K : PySem.W.Frag) (ta : TA) : TI := fun σ H R => ta σ H fun vs H1 => (∃ a xs, vs = [.ref a] ∧ SqL K H1 a xs ∧ R (Ite K a) H1) ∨ ∃ a xs, vs = [.ref a] ∧ SqT K H1 a xs ∧ R (IteT K a) H1
theorem pi_enumB {X : Cx} {e : Expr} {ta : TA} {p pos tpos : Pos} {elts : List Expr} {kk : Nat} (hg : Gl X "enumerate") (hm : X.mg "enumerate" = none) (ha : PA X [e] ta) (hs : starEach [e] X.env = [(false, eval e X.env)] := by rfl) :
    PI X (.Tuple elts kk tpos) (.Call (.Name "enumerate" p) [e] [] pos) (iEnumB X.K ta) := by
  refine ⟨fun pins s σ H R I h => ?_⟩
  refine Call_ (ld_blt I hg hm boot_enumerate (PyProof.Rows.callWith_type1 (thn (ha.run pos pins s σ H _ I h) fun us s1 ⟨vs, H1, I1, r1, q1⟩ => ?_) hs rfl))
  have two : ∀ b ∈ [s1.heap.objs.size + 1, s1.heap.objs.size], s1.heap.objs.size ≤ b := fun b hb => by
    have e' : b = s1.heap.objs.size + 1 ∨ b = s1.heap.objs.size := by simpa using hb
    omega
  rcases q1 with ⟨a, xs, rfl, hq, q⟩ | ⟨a, xs, rfl, hq, q⟩
  · cases r1 with
    | cons r rr =>
      cases rr
      cases r
      obtain ⟨its, rv, p', hz⟩ := I1.list hq
      refine call_enumerate_list p'.isList fun h' he hit hsz hk => wpAny_pyIter_enum he ?_
      have I2 : Inv X pins σ H1 { s1 with heap := h' } := I1.kept (t' := s1.toks) hk
      exact ⟨s1.heap.objs.size + 1, [s1.heap.objs.size + 1, s1.heap.objs.size], _, _, H1, rfl, I2, turn_enum a (s1.heap.objs.size + 1) s1.heap.objs.size, ⟨⟨.none, he⟩, hit, Nat.succ_ne_self _⟩, fun b hb => I1.fpOk (two b hb) (I1.hok.fresh (two b hb)), q⟩
  · cases r1 with
    | cons r rr =>
      cases rr
      cases r
      obtain ⟨its, rv, p', hz⟩ := I1.tuple hq
      have hal : a < s1.heap.objs.size := by obtain ⟨o, ho, _⟩ := p'; exact Heap.lt_size ho
      refine call_enum1 (begins_tuple a its.toArray) p' fun h' he hit hk => wpAny_pyIter_enum he ?_
      have I2 : Inv X pins σ H1 { s1 with heap := h' } := I1.kept (t' := s1.toks) hk
      exact ⟨s1.heap.objs.size + 1, [s1.heap.objs.size + 1, s1.heap.objs.size], _, _, H1, rfl, I2, turn_enumT a (s1.heap.objs.size + 1) s1.heap.objs.size, ⟨⟨.none, he⟩, ⟨_, hit, rfl, rfl⟩, Nat.succ_ne_self _, Nat.ne_of_gt (Nat.lt_succ_of_lt hal), Nat.ne_of_lt hal⟩, fun b hb => I1.fpOk (two b hb) (I1.hok.fresh (two b hb)), q⟩
theorem it_enumT {K : PySem.W.Frag} {H0 : Hp} {a : Addr} {xs : List Dv} (r1 : Rep K H0 (.ref a) (.tup xs)) : ItD K H0 (IteT K a) (counted xs) (fun _ => True) := by
  refine ⟨fun i H S z t ha st hz => ?_, fun H S t ha st => ?_⟩
  · obtain ⟨x, ex, rfl⟩ := counted_get hz
    obtain ⟨p, ws, e1, hl1, l1⟩ := (r1.mono t).i_tup
    cases e1
    obtain ⟨v, ev, rv⟩ := l1.get ex
    refine ⟨⟨ws, v, hl1, ev⟩, fun q H' ⟨T, x', e1, e2, e3, e4⟩ => ?_⟩
    subst e1 e3
    have g1 := e4 ws hl1
    rw [ev] at g1
    cases g1
    exact ⟨Tk.new e2, rep2 e2 (.int _) rv, ha.tup e2⟩
  · obtain ⟨p, ws, e1, hl1, l1⟩ := (r1.mono t).i_tup
    cases e1
    refine ⟨ws, hl1, ?_⟩
    rw [counted_len, ← l1.length]
def iEnumAD (das : DA) : DI := fun ρ S R X => das ρ S (fun ds S1 => match ds with
  | [.tup xs] => R (counted xs) (fun _ => True) S1
  | [d] => lstOf d S1 fun xs => R (counted xs) (fun S => isL d S xs) S1
  | _ => False) X
theorem i_enumA {X : Cx} {W : WX} {e : Expr} {das : DA} {p pos tpos : Pos} {elts : List Expr} {kk : Nat} (hm : X.mg "enumerate" = none) (ha : PA X [e] (lowA X.K W das)) (hg : Gl X "enumerate" := by rfl) (hs : starEach [e] X.env = [(false, eval e X.env)] := by rfl) :
    PI X (.Tuple elts kk tpos) (.Call (.Name "enumerate" p) [e] [] pos) (lowI X.K W (iEnumAD das)) := pii (pi_enumB hg hm ha hs) fun σ H R ⟨ρ, S, Rh, Xh, hσ, hS, h, k, x⟩ => by
  refine ⟨ρ, S, _, Xh, hσ, hS, h, fun ds S1 vs H1 q t r a => ?_, x⟩
  dsimp only at q
  split at q
  · obtain ⟨v, rfl, r1⟩ := one_i r
    obtain ⟨c, us, rfl, hc, lc⟩ := r1.i_tup
    exact .inr ⟨c, us, rfl, hc, k _ _ S1 _ H1 q t a (it_enumT r1)⟩
  · obtain ⟨v, rfl, r1⟩ := one_i r
    obtain ⟨xs, s1, q⟩ := lstOf_ex q
    obtain ⟨c, us, rfl, hc, lc⟩ := lst_at r1 (Tk.refl H1) a s1
    exact .inl ⟨c, us, rfl, hc, k _ _ S1 _ H1 q t a (it_enumL r1)⟩
  · exact q.elim
end VD

/-! readings at known kinds, one by one: what is not known yet stays folded -/
namespace VD
open PySem PySem.Spec PyProof.Rows L2
section
variable {i j k : Int} {b b2 : Bool} {x y : Dv} {xs ys : List Dv} {z w : Str} {S : Sto} {Q : QD} {f : Bool → Bool} {a : Addr} {lo hi : Option Int}
theorem xd_mk {nx : Rho → Sto → Prop} {rt : Dv → Sto → Prop} {bk ct : Rho → Sto → Prop} {ex : Value → Option Addr → Rho → Sto → Prop} {ρ : Rho} : DEnds.xd { nx := nx, rt := rt, bk := bk, ct := ct, ex := ex } ρ = fun c d S => ex c d ρ S := rfl
theorem qAdd_i : rdAddV (.int i) (.int j) S Q = Q (.int (i + j)) S := rfl
theorem qAdd_t : rdAddV (.tup xs) (.tup ys) S Q = (xs.length + ys.length ≤ sizeLine ∧ Q (.tup (xs ++ ys)) S) := rfl
theorem qAdd_s : rdAddV (.str z) (.str w) S Q = (z.length + w.length ≤ sizeLine ∧ Q (.str (z ++ w)) S) := rfl
theorem qAdd_l : rdAddV (.rol xs) (.rol ys) S Q = (xs.length + ys.length ≤ sizeLine ∧ Q (.rol (xs ++ ys)) S) := rfl
theorem qMul_i : rdMulV (.int i) (.int j) S Q = (IntMulOk i j ∧ Q (.int (i * j)) S) := rfl
theorem qMul_t : rdMulV (.tup xs) (.int k) S Q = ((-(2 ^ 63) ≤ k ∧ k ≤ 1000 ∧ xs.length ≤ 1000 ∧ (1 ≤ k ∨ xs ≠ [])) ∧ Q (.tup (List.replicate k.toNat xs).flatten) S) := rfl
theorem qMul_l : rdMulV (.rol xs) (.int k) S Q = (((-(2 ^ 63) ≤ k ∧ k < 2 ^ 63) ∧ xs.length * k.toNat ≤ sizeLine) ∧ Q (.rol (List.replicate k.toNat xs).flatten) S) := rfl
theorem qSub_i : rdSub (.int i) (.int j) S Q = Q (.int (i - j)) S := rfl
theorem qDiv_i : rdDiv (.int i) (.int j) S Q = (CDivP i j ∧ Q (.int (i / j)) S) := rfl
theorem qMod_i : rdMod (.int i) (.int j) S Q = (0 < j ∧ Q (.int (i % j)) S) := rfl
theorem qPow_i : rdPow (.int i) (.int j) S Q = (CPow i j ∧ Q (.int (i ^ j.toNat)) S) := rfl
theorem qIAdd_i : rdIAdd (.int i) (.int j) S Q = Q (.int (i + j)) S := rfl
theorem qEq_i : rdEqG f (.int i) (.int j) S Q = Q (.bl (f (decide (i = j)))) S := rfl
theorem qEq_b : rdEqG f (.bl b) (.bl b2) S Q = Q (.bl (f (decide (b = b2)))) S := rfl
theorem qEq_s : rdEqG f (.str z) (.str w) S Q = Q (.bl (f (decide (z = w)))) S := rfl
theorem qCmp_i {p : Int → Int → Bool} : rdCmp p (.int i) (.int j) S Q = Q (.bl (p i j)) S := rfl
theorem qIsN {x : Dv} : rdIsN f x .non S Q = Q (.bl (f (isNon x))) S := rfl
theorem qSl_t : rdSlV (.tup xs) lo hi S Q = Q (.tup (cutD xs lo hi)) S := rfl
theorem qSl_l : rdSlV (.rol xs) lo hi S Q = Q (.rol (cutD xs lo hi)) S := rfl
theorem qSl_s : rdSlV (.str z) lo hi S Q = (z.length ≤ sizeLine ∧ Q (.str (cutS z lo hi)) S) := rfl
theorem qInt_i : rdInt [.int i] S Q = Q (.int i) S := rfl
theorem qInt_b : rdInt [.bl b] S Q = Q (.int (if b then 1 else 0)) S := rfl
theorem qInt1 {g : Int → Dv} : rdInt1 g [.int i] S Q = Q (g i) S := rfl
theorem qMax : rdMaxL [.int i, .int j] S Q = Q (.int (if j > i then j else i)) S := rfl
theorem qMin : rdMinL [.int i, .int j] S Q = Q (.int (if j < i then j else i)) S := rfl
theorem qList_t : rdListV [.tup xs] S Q = Q (.rol xs) S := rfl
theorem qList_l : rdListV [.rol xs] S Q = Q (.rol xs) S := rfl
end
end VD

/-! methods that only look: count, index; xs[a:] = ys -/
namespace VD
open PySem PySem.Spec PyProof.Rows L2
section
variable {X : Cx} {W : WX} {o e : Expr} {es : List Expr} {do_ : DE} {das : DA} {K : PySem.W.Frag}
/-! ### a method that only looks at its list -/
/-! count of a bool -/
/-! index of a flat thing -/
/-! ### xs[a:] = ys -/
end
end VD

/-! == by an own __eq__, list(range(..)), "".join(..), a text so many times, a sign within a text -/
namespace VD
open PySem PySem.Spec PyProof.Rows L2
section
variable {X : Cx} {W : WX} {a b e : Expr} {da db de : DE} {pos p p2 : Pos} {C g : Addr} {k : Nat} {fd : FuncData} {ps : List Str} {sp : SpD}
/-! == by an own __eq__ -/
def rOwn (K : PySem.W.Frag) (C : Addr) (sp : Sp) : R2 := fun x y H Q => ∃ a b dx dy fs gs, x = V.ref a ∧ y = V.ref b ∧ InsAt H a C dx fs ∧ InsAt H b C dy gs ∧ sp [V.ref a, V.ref b] H (fun v H' => (∃ r, v = V.bl r) ∧ Q v H') (fun _ _ _ => False)
theorem insAt_obj {P : Program} {w : World} {H : Hp} {h : Heap} {a dx C : Addr} {fs : List (Str × V)} (hok : HOk P w H h) (e : InsAt H a C dx fs) : ∃ mA, ObjM h a dx C mA := by
  obtain ⟨mA, O, _⟩ := insAt_get hok e
  exact ⟨mA, O⟩
theorem op_own {sp : Sp} (F : FnG X.prog X.w X.K X.mg X.base (L2.CX X.prog X.w) k g fd ps sp) (hr : RoomG k X.A) (hs : PySem.W.findIn X.K (.ref C) "__eq__" = some (some (.ref g))) (hf : PySem.W.isFn X.K (.ref g) = true) (hb : Binds X.K fd ps []) :
    OpR X (compareOp .Eq) (rOwn X.K C sp) := by
  intro pins s σ H x y v u Q I rx ry h
  obtain ⟨a, b, dx, dy, fs, gs, rfl, rfl, ha, hb', h⟩ := h
  cases rx
  cases ry
  obtain ⟨mA, J⟩ := insAt_obj I.hok ha
  obtain ⟨mB, J'⟩ := insAt_obj I.hok hb'
  obtain ⟨od, J, _⟩ := J.look
  obtain ⟨od', J', _⟩ := J'.look
  obtain ⟨m, hF⟩ := I.fr
  show wpAny (model X.prog X.w) X.A (richCompare .Eq (.ref a) (.ref b)) (EP X pins σ Q) X.xe s
  refine PySem.W.cmp_K (op := .Eq) (tb := .ref C) hr.units0 hF I.ok.mod.kin J J'.type (by simp [PySem.W.notFirst]) hs hf ?_
  refine thn (run_G (E := fun _ => fun _ _ _ => False) (Q := fun v H' => (∃ r, v = V.bl r) ∧ Q v H') (vs := [V.ref a, V.ref b]) F hr hb (fun _ _ _ _ _ _ c => by
    obtain ⟨_, _, _, _, _, _, _, _, _, _, _, _, z⟩ := c
    exact z.elim) I (.cons rfl (.cons rfl .nil)) h) fun w s1 ⟨v1, H1, I1, r1, q1⟩ => ?_
  obtain ⟨⟨r, rfl⟩, q1⟩ := q1
  obtain rfl : w = Value.bool r := r1
  exact ⟨.bl r, H1, I1, rfl, q1⟩
def rdOwn (C : Addr) (sp : SpD) : RD2 := fun x y S Q => insOf x S fun C1 _ _ => C1 = C ∧ insOf y S fun C2 _ _ => C2 = C ∧ sp [x, y] S (fun v S' => (∃ r, v = .bl r) ∧ Q v S') X0
theorem l_own {K : PySem.W.Frag} : LR2 K (rOwn K C (lowF K sp)) (rdOwn C sp) := by
  intro x y H dx dy S Qh Q rx ry hS h k
  obtain ⟨a, C1, ax, ns, vs, ds, rfl, ia, _, _, e1, h1⟩ := insOf_i rx hS h
  obtain ⟨b, C2, bx, ns2, vs2, ds2, rfl, ib, _, _, e2, h2⟩ := insOf_i ry hS h1
  subst e1
  rw [e2] at ib
  refine ⟨a, b, ax, bx, _, _, rfl, rfl, ia, ib, _, S, _, X0, .cons rx (.cons ry .nil), hS, h2, fun d S' v H' q t r z => ?_, fun c da S' H' q _ _ => q.elim⟩
  obtain ⟨⟨r0, rfl⟩, q⟩ := q
  exact ⟨⟨r0, r.i_bl⟩, k _ _ _ _ q t r z⟩
/-! list(range(a, b)) -/
def rgI (i j : Int) : List Int := (List.range (j - i).toNat).map fun k : Nat => i + (k : Int)
theorem rgV_is (i j : Int) : rgV i j = (rgI i j).map V.int := by
  unfold rgV rgI
  rw [List.map_map]
  rfl
def dListRg2 (da db : DE) : DE := fun ρ S Q X => da ρ S (fun x S1 => db ρ S1 (fun y S2 => match x, y with
  | .int i, .int j => RgOk i j ∧ Q (.rol ((rgI i j).map Dv.int)) S2
  | _, _ => False) X) X
theorem d_listRg2 (hc : X.calm = true) (hm : X.mg "list" = none) (hm2 : X.mg "range" = none) (ha : PE X a (low X.K W da)) (hb : PE X b (low X.K W db)) (hg : Gl X "list" := by rfl) (hg2 : Gl X "range" := by rfl)
    (n1 : starEach [a, b] X.env = (false, eval a X.env) :: starEach [b] X.env := by rfl) (n3 : starEach [b] X.env = (false, eval b X.env) :: starEach [] X.env := by rfl) (n4 : (backTo pos (starEach [b] X.env)).any (·.1) = false := by rfl) (n2 : starEach [Expr.Call (.Name "range" p2) [a, b] [] pos] X.env = (false, eval (.Call (.Name "range" p2) [a, b] [] pos) X.env) :: starEach [] X.env := by rfl) {pos2 : Pos} :
    PE X (.Call (.Name "list" p) [.Call (.Name "range" p2) [a, b] [] pos] [] pos2) (low X.K W (dListRg2 da db)) :=
  pei (pe_fz (pe_listRg hc hg hm (prg_2 hg2 hm2 ha hb n1 n3 n4) n2)) fun σ H Q ⟨ρ, S, Qh, Xh, hσ, hS, h, k, x⟩ =>
  ⟨ρ, S, _, Xh, hσ, hS, h, fun d1 S1 v1 H1 q1 t1 r1 a1 => ⟨ρ, S1, _, Xh, hσ.mono t1, a1, q1, fun d2 S2 v2 H2 q2 t2 r2 a2 => by
    dsimp only at q2
    split at q2
    · rename_i i j
      refine ⟨i, j, (r1.mono t2).i_int, r2.i_int, q2.1, fun p hp => ?_⟩
      rw [rgV_is]
      exact (k.mono (t1.trans t2)).frzL q2.2 hp (.of_ints _) a2
    · exact q2.elim, x.mono t1⟩, x⟩
/-! "..".join(xs) -/
def dJoin (do_ de : DE) : DE := fun ρ S Q X => do_ ρ S (fun x S1 => (∃ z, x = .str z) ∧ de ρ S1 (fun y S2 => ∃ z, x = .str z ∧ seqOf y S2 fun xs => ∃ ys : List Str, xs = ys.map Dv.str ∧ (ys.map (·.length)).sum + ys.length * z.length ≤ 16777216 ∧ Q (.str (Txt.join z ys)) S2) X) X
theorem repl_strs {K : PySem.W.Frag} {H : Hp} : ∀ {us : List V} {ys : List Str}, RepL K H us (ys.map Dv.str) → us = ys.map V.str
  | [], [], _ => rfl
  | _ :: _, _ :: _, .cons r t => by rw [r.i_str, repl_strs t]; rfl
theorem d_join {o : Expr} {do_ : DE} {apos : Pos} (ho : PE X o (low X.K W do_)) (he : PE X e (low X.K W de)) (hs : starEach [e] X.env = [(false, eval e X.env)] := by rfl) (hbase : attributeBase o "join" X.env (eval o X.env) = eval o X.env := by rfl) (hline : (apos.endLine == pos.line) = true := by rfl) :
    PE X (.Call (.Attribute o "join" apos) [e] [] pos) (low X.K W (dJoin do_ de)) := pei (pe_join ho he hs hbase hline) fun σ H Q ⟨ρ, S, Qh, Xh, hσ, hS, h, k, x⟩ =>
  ⟨ρ, S, _, Xh, hσ, hS, h, fun d1 S1 v1 H1 q1 t1 r1 a1 => by
    obtain ⟨⟨z, rfl⟩, q1⟩ := q1
    have e1 := r1.i_str
    subst e1
    refine ⟨⟨z, rfl⟩, ρ, S1, _, Xh, hσ.mono t1, a1, q1, fun d2 S2 v2 H2 q2 t2 r2 a2 => ?_, x.mono t1⟩
    obtain ⟨z2, ez, q2⟩ := q2
    cases ez
    obtain ⟨a, us, xs, rfl, hl, rl, ys, rfl, hz, q⟩ := seqOf_i r2 a2 q2
    rw [repl_strs rl] at hl
    exact ⟨z, a, ys, rfl, rfl, hl, hz, k _ _ _ _ q (t1.trans t2) (.str _) a2⟩, x⟩
/-! a sign within a text -/
def rIn1 (f : Bool → Bool) : R2 := fun x y H Q => ∃ (c : Nat) (z : Str), x = .str ⟨#[c]⟩ ∧ y = .str z ∧ Q (.bl (f (decide (c ∈ z.cps.toList)))) H
def rdIn1 (f : Bool → Bool) : RD2 := fun x y S Q => ∃ (c : Nat) (z : Str), x = .str ⟨#[c]⟩ ∧ y = .str z ∧ Q (.bl (f (decide (c ∈ z.cps.toList)))) S
theorem op_in1 : OpR X (compareOp .In) (rIn1 fun b => b) := op_in_sign
theorem op_nin1 : OpR X (compareOp .NotIn) (rIn1 fun b => !b) := op_notIn_sign
theorem l_in1 {K : PySem.W.Frag} {f : Bool → Bool} : LR2 K (rIn1 f) (rdIn1 f) := by
  intro x y H dx dy S Qh Q rx ry hS h k
  obtain ⟨c, z, rfl, rfl, q⟩ := h
  exact ⟨c, z, rx.i_str, ry.i_str, k _ _ _ _ q (Tk.refl H) (.bl _) hS⟩
end
end VD

namespace Lw
open PySem PySem.Spec PyProof.Rows L2 VD
theorem rdIx_tup {xs : List Dv} {i : Int} {S : Sto} {Q : QD} : rdIx (.tup xs) (.int i) S Q = ∃ d, atI xs i = some d ∧ Q d S := rfl
theorem rdIx_rol {xs : List Dv} {i : Int} {S : Sto} {Q : QD} : rdIx (.rol xs) (.int i) S Q = ∃ d, atI xs i = some d ∧ Q d S := rfl
theorem rdIx_ref {xs : List Dv} {a : Addr} {i : Int} {S : Sto} {Q : QD} (h : S a = some (.lst xs)) : rdIx (.ref a) (.int i) S Q = ∃ d, atI xs i = some d ∧ Q d S := by
  unfold rdIx
  dsimp only
  rw [h]
theorem isn_non : VD.isNon .non = true := rfl
theorem isn_bl {b : Bool} : VD.isNon (.bl b) = false := rfl
theorem isn_int {b : Int} : VD.isNon (.int b) = false := rfl
theorem isn_str {b : Str} : VD.isNon (.str b) = false := rfl
theorem isn_ref {b : Addr} : VD.isNon (.ref b) = false := rfl
theorem isn_tup {b : List Dv} : VD.isNon (.tup b) = false := rfl
theorem isn_rol {b : List Dv} : VD.isNon (.rol b) = false := rfl
theorem isn_obj {C : Addr} {ns : List Str} {b : List Dv} : VD.isNon (.obj C ns b) = false := rfl
section
variable {xs : List Dv} {a : Addr} {i : Int} {S : Sto} {Q : QD} {z : Str} {R : List Dv → Prop}
theorem rdIx_put : rdIx (.ref a) (.int i) (put S a (.lst xs)) Q = ∃ d, atI xs i = some d ∧ Q d (put S a (.lst xs)) := rdIx_ref put_same
theorem rdLen_tup : rdLen [.tup xs] S Q = Q (.int xs.length) S := rfl
theorem rdLen_rol : rdLen [.rol xs] S Q = Q (.int xs.length) S := rfl
theorem rdLen_str : rdLen [.str z] S Q = (z.length ≤ sizeLine ∧ Q (.int z.length) S) := rfl
theorem rdLen_ref (h : S a = some (.lst xs)) : rdLen [.ref a] S Q = Q (.int xs.length) S := by unfold rdLen; dsimp only; rw [h]
theorem rdLen_put : rdLen [.ref a] (put S a (.lst xs)) Q = Q (.int xs.length) (put S a (.lst xs)) := rdLen_ref put_same
theorem lstOf_rol : lstOf (.rol xs) S R = R xs := rfl
theorem lstOf_ref (h : S a = some (.lst xs)) : lstOf (.ref a) S R = R xs := by unfold lstOf; dsimp only; rw [h]
theorem lstOf_put : lstOf (.ref a) (put S a (.lst xs)) R = R xs := lstOf_ref put_same
theorem seqOf_tup : seqOf (.tup xs) S R = R xs := rfl
theorem seqOf_rol : seqOf (.rol xs) S R = R xs := rfl
theorem seqOf_ref (h : S a = some (.lst xs)) : seqOf (.ref a) S R = R xs := by unfold seqOf; dsimp only; rw [h]
theorem seqOf_put : seqOf (.ref a) (put S a (.lst xs)) R = R xs := seqOf_ref put_same
theorem insOf_ref {C dx : Addr} {fs : List (Str × Dv)} {R : Addr → List Str → List Dv → Prop} (h : S a = some (.ins C dx fs)) : insOf (.ref a) S R = R C (fs.map (·.1)) (fs.map (·.2)) := by unfold insOf; dsimp only; rw [h]
theorem insOf_put {C dx : Addr} {fs : List (Str × Dv)} {R : Addr → List Str → List Dv → Prop} : insOf (.ref a) (put S a (.ins C dx fs)) R = R C (fs.map (·.1)) (fs.map (·.2)) := insOf_ref put_same
theorem frz_tup : frzD (.tup xs) S Q = Q (.tup xs) S := rfl
theorem frz_rol : frzD (.rol xs) S Q = Q (.rol xs) S := rfl
theorem frz_int : frzD (.int i) S Q = Q (.int i) S := rfl
theorem frz_bl {b : Bool} : frzD (.bl b) S Q = Q (.bl b) S := rfl
theorem frz_non : frzD .non S Q = Q .non S := rfl
theorem frz_str : frzD (.str z) S Q = Q (.str z) S := rfl
theorem frz_obj {C : Addr} {ns : List Str} : frzD (.obj C ns xs) S Q = Q (.obj C ns xs) S := rfl
end
theorem tup_rol {xs : List Dv} {S : Sto} {Q : QD} (q : Q (.tup xs) S) : rdTuple [.rol xs] S Q := ⟨S, Sub.refl S, q⟩
theorem all_rol {bs : List Bool} {S : Sto} {Q : QD} (q : Q (.bl (bs.all id)) S) : rdAll [.rol (bs.map Dv.bl)] S Q := ⟨bs, rfl, S, Sub.refl S, q⟩
theorem any_rol {bs : List Bool} {S : Sto} {Q : QD} (q : Q (.bl (bs.any id)) S) : rdAny [.rol (bs.map Dv.bl)] S Q := ⟨bs, rfl, S, Sub.refl S, q⟩
theorem slK {n : Nat} (h : n ≤ 1000000 := by decide) : n ≤ sizeLine := by rw [sizeLine_eq]; omega
/-! ### kinds of things -/
section
variable (A : Ad)
def known (S : Sto) (d : Dv) : Prop := ∃ t, tyD S d = some t ∧ ∀ C, t = .ref C → C ∈ A.ot.cs
end
section
variable {A : Ad}
theorem tyD_sub {S T : Sto} {d : Dv} {t : Value} (h : tyD S d = some t) (s : Sub S T) : tyD T d = some t := by
  cases d with
  | ref a =>
    dsimp only [tyD] at h ⊢
    cases e : S a with
    | none => rw [e] at h; cases h
    | some m => rw [s a m e]; rw [e] at h; exact h
  | _ => exact h
theorem known.sub {S T : Sto} {d : Dv} (h : known A S d) (s : Sub S T) : known A T d := by
  obtain ⟨t, h1, h2⟩ := h
  exact ⟨t, tyD_sub h1 s, h2⟩
theorem kn_str {S : Sto} {b : Str} : known A S (.str b) := ⟨_, rfl, fun _ e => by cases e⟩
theorem kn_tup {S : Sto} {b : List Dv} : known A S (.tup b) := ⟨_, rfl, fun _ e => by cases e⟩
/-- plain: by value and of no own class -/
def isPl : Dv → Bool
  | .non | .bl _ | .int _ | .str _ | .tup _ | .rol _ | .rod _ _ => true
  | _ => false
theorem kn_pl {S : Sto} {d : Dv} (h : isPl d = true) : known A S d := by
  cases d <;> first | (cases h; done) | exact ⟨_, rfl, fun _ e => by cases e⟩
def isInt : Dv → Bool
  | .int _ => true
  | _ => false
def isBl : Dv → Bool
  | .bl _ => true
  | _ => false
def isTup : Dv → Bool
  | .tup _ => true
  | _ => false
def isStr : Dv → Bool
  | .str _ => true
  | _ => false
/-- one class of the built-in ones -/
theorem isi_of {S : Sto} {d : Dv} {n : String} {Q : QD} {b : Bool} (h : known A S d) (hn : tyNames.contains n = true) (hb : ∀ t, tyD S d = some (.type t) → isiB t n = b) (ho : ∀ C, tyD S d = some (.ref C) → b = false) (q : Q (.bl b) S) : rdIsi A.ot [d, .ty n] S Q := by
  obtain ⟨t, h1, h2⟩ := h
  unfold rdIsi
  rcases tyD_in h1 with ⟨m, hm, rfl⟩ | ⟨C, rfl⟩
  · refine ⟨_, _, h1, .bb m n hn, ?_⟩
    rw [hb m h1]
    exact q
  · refine ⟨_, _, h1, .ob C n (h2 C rfl) hn, ?_⟩
    rw [← ho C h1]
    exact q
theorem tyD_ref {S : Sto} {a : Addr} {t : String} (h : tyD S (.ref a) = some (.type t)) : t = "list" ∨ t = "dict" := by
  dsimp only [tyD] at h
  split at h
  · cases h; exact .inl rfl
  · cases h; exact .inr rfl
  · cases h
  · cases h
theorem isi_int {S : Sto} {d : Dv} {Q : QD} (h : known A S d) (q : Q (.bl (isInt d || isBl d)) S) : rdIsi A.ot [d, .ty "int"] S Q := isi_of h (by decide) (fun t ht => by
  cases d with
  | ref a => rcases tyD_ref ht with rfl | rfl <;> rfl
  | ty n => cases ht
  | _ => cases ht <;> rfl) (fun C ht => by cases d <;> first | (cases ht; done) | rfl) q
theorem isi_bool {S : Sto} {d : Dv} {Q : QD} (h : known A S d) (q : Q (.bl (isBl d)) S) : rdIsi A.ot [d, .ty "bool"] S Q := isi_of h (by decide) (fun t ht => by
  cases d with
  | ref a => rcases tyD_ref ht with rfl | rfl <;> rfl
  | ty n => cases ht
  | _ => cases ht <;> rfl) (fun C ht => by cases d <;> first | (cases ht; done) | rfl) q
theorem isi_tuple {S : Sto} {d : Dv} {Q : QD} (h : known A S d) (q : Q (.bl (isTup d)) S) : rdIsi A.ot [d, .ty "tuple"] S Q := isi_of h (by decide) (fun t ht => by
  cases d with
  | ref a => rcases tyD_ref ht with rfl | rfl <;> rfl
  | ty n => cases ht
  | _ => cases ht <;> rfl) (fun C ht => by cases d <;> first | (cases ht; done) | rfl) q
theorem isi_str {S : Sto} {d : Dv} {Q : QD} (h : known A S d) (q : Q (.bl (isStr d)) S) : rdIsi A.ot [d, .ty "str"] S Q := isi_of h (by decide) (fun t ht => by
  cases d with
  | ref a => rcases tyD_ref ht with rfl | rfl <;> rfl
  | ty n => cases ht
  | _ => cases ht <;> rfl) (fun C ht => by cases d <;> first | (cases ht; done) | rfl) q
end
/-! ### checks -/
def sp_is_integer (A : Ad) : SpD := fun ds S Q _ => ∃ d, ds = [d] ∧ known A S d ∧ Q (.bl (isInt d)) S
theorem len_is_integer (A : Ad) : ∀ ds S Q X, sp_is_integer A ds S Q X → ds.length = 1 := by rintro _ _ _ _ ⟨_, rfl, _⟩; rfl
def r_is_integer (A : Ad) : DS := (dRet (dAndV (dCB (rdIsi A.ot) (dCons (dVar 0) (dCons (dC (.ty "int")) dNil))) (dNotV (dCB (rdIsi A.ot) (dCons (dVar 0) (dCons (dC (.ty "bool")) dNil))))))
theorem rd_is_integer (A : Ad) : Rd (r_is_integer A) 1 (sp_is_integer A) := by
  rintro ds S Q X ⟨d, rfl, hk, h⟩
  unfold r_is_integer
  simp only [dSeq, dAsg, dRet, dRetN, dDrop, dRaise, dBreak, dCont, dPar, dAug, dFor, dNext, dSetF, dAugF, dRaiseF, dIfS, dTest, dOp, dVar, dC, dCB, dCons, dNil, dCall, dAndV, dOrV, dNotV, dAndT, dOrT, dNotT, dIf, dTup, dLst, dLstV, dSl, dSlV, rdSlV, oSome, oNone, dNeg, gN, gT, gConsD, gNilD, gSubD, gFldD, dChain, dLc, dBM, isLst, iSeqD, iR1, iR2, iR3, dYes, rdAddV, rdMulV, rdSub, rdDiv, rdMod, rdPow, rdIAdd, rdCmp, rdIsN, isn_non, isn_bl, isn_int, isn_str, isn_ref, isn_tup, isn_rol, isn_obj, rdEqG, rdIx_tup, rdIx_rol, rdIx_put, rdSet, rdLen_tup, rdLen_rol, rdLen_str, rdLen_put, rdInt1, rdInt, rdInt2, rdAppend, rdExt, rdPopAt, rdMaxL, rdMinL, rdListV, rdIsB, isBlV, rdStrI, rdIntS, dFrz, dFld, insOf_put, dMeth, lstOf_rol, lstOf_put, seqOf_tup, seqOf_rol, seqOf_put, frz_tup, frz_rol, frz_int, frz_bl, frz_non, frz_str, frz_obj, startN, wipeD, List.map_cons, List.map_nil, List.length_cons, List.length_nil, Nat.zero_add, Nat.sub_self, Nat.reduceAdd, Nat.reduceSub, List.replicate_succ, List.replicate_zero, List.cons_append, List.nil_append, List.append_nil, List.getElem?_cons_zero, List.getElem?_cons_succ, List.set_cons_zero, List.set_cons_succ, Option.some.injEq, exists_eq_left', DEnds.xd, atI_0, atI_1, atI_2, atI_3, atI_4, atI_5, atI_6, atI_7, ixN_50, ixN_51, ixN_52, ixN_53, ixN_54, ixN_30, ixN_31, ixN_32, put_same, put_put, true_and, and_true, decide_true, decide_false, Bool.not_true, Bool.not_false, Bool.false_eq_true, if_true, if_false, decide_eq_true_eq, Bool.not_eq_true', decide_eq_false_iff_not, mem_one, ex_one, and_self]
  refine isi_int hk ?_
  cases e : (isInt d || isBl d) with
  | true =>
    refine isi_bool hk ?_
    cases d <;> first | exact h | simp [isInt, isBl] at e
  | false =>
    cases d <;> first | exact h | simp [isInt, isBl] at e
def within (d : Dv) (a b : Int) : Bool := match d with
  | .int i => decide (a ≤ i) && decide (i ≤ b)
  | _ => false
theorem within_i {d : Dv} {a b : Int} : within d a b = true ↔ ∃ i, d = .int i ∧ a ≤ i ∧ i ≤ b := by
  cases d <;> simp [within]
def sp_is_within (A : Ad) : SpD := fun ds S Q _ => ∃ d a b, ds = [d, .int a, .int b] ∧ known A S d ∧ Q (.bl (within d a b)) S
theorem len_is_within (A : Ad) : ∀ ds S Q X, sp_is_within A ds S Q X → ds.length = 3 := by rintro _ _ _ _ ⟨_, _, _, rfl, _⟩; rfl
def r_is_within (A : Ad) : DS := (dRet (dAndV (dCall (sp_is_integer A) (dCons (dVar 0) dNil)) (dChain rdLe rdLe (dVar 1) (dVar 0) (dVar 2))))
theorem rd_is_within (A : Ad) : Rd (r_is_within A) 3 (sp_is_within A) := by
  rintro ds S Q X ⟨d, a, b, rfl, hk, h⟩
  unfold r_is_within
  simp only [dSeq, dAsg, dRet, dRetN, dDrop, dRaise, dBreak, dCont, dPar, dAug, dFor, dNext, dSetF, dAugF, dRaiseF, dIfS, dTest, dOp, dVar, dC, dCB, dCons, dNil, dCall, dAndV, dOrV, dNotV, dAndT, dOrT, dNotT, dIf, dTup, dLst, dLstV, dSl, dSlV, rdSlV, oSome, oNone, dNeg, gN, gT, gConsD, gNilD, gSubD, gFldD, dChain, dLc, dBM, isLst, iSeqD, iR1, iR2, iR3, dYes, rdAddV, rdMulV, rdSub, rdDiv, rdMod, rdPow, rdIAdd, rdCmp, rdIsN, isn_non, isn_bl, isn_int, isn_str, isn_ref, isn_tup, isn_rol, isn_obj, rdEqG, rdIx_tup, rdIx_rol, rdIx_put, rdSet, rdLen_tup, rdLen_rol, rdLen_str, rdLen_put, rdInt1, rdInt, rdInt2, rdAppend, rdExt, rdPopAt, rdMaxL, rdMinL, rdListV, rdIsB, isBlV, rdStrI, rdIntS, dFrz, dFld, insOf_put, dMeth, lstOf_rol, lstOf_put, seqOf_tup, seqOf_rol, seqOf_put, frz_tup, frz_rol, frz_int, frz_bl, frz_non, frz_str, frz_obj, startN, wipeD, List.map_cons, List.map_nil, List.length_cons, List.length_nil, Nat.zero_add, Nat.sub_self, Nat.reduceAdd, Nat.reduceSub, List.replicate_succ, List.replicate_zero, List.cons_append, List.nil_append, List.append_nil, List.getElem?_cons_zero, List.getElem?_cons_succ, List.set_cons_zero, List.set_cons_succ, Option.some.injEq, exists_eq_left', DEnds.xd, atI_0, atI_1, atI_2, atI_3, atI_4, atI_5, atI_6, atI_7, ixN_50, ixN_51, ixN_52, ixN_53, ixN_54, ixN_30, ixN_31, ixN_32, put_same, put_put, true_and, and_true, decide_true, decide_false, Bool.not_true, Bool.not_false, Bool.false_eq_true, if_true, if_false, decide_eq_true_eq, Bool.not_eq_true', decide_eq_false_iff_not, mem_one, ex_one, and_self]
  refine ⟨d, rfl, hk, ?_⟩
  cases d with
  | int i =>
    unfold within at h
    unfold isInt
    dsimp only
    simp only [dSeq, dAsg, dRet, dRetN, dDrop, dRaise, dBreak, dCont, dPar, dAug, dFor, dNext, dSetF, dAugF, dRaiseF, dIfS, dTest, dOp, dVar, dC, dCB, dCons, dNil, dCall, dAndV, dOrV, dNotV, dAndT, dOrT, dNotT, dIf, dTup, dLst, dLstV, dSl, dSlV, rdSlV, oSome, oNone, dNeg, gN, gT, gConsD, gNilD, gSubD, gFldD, dChain, dLc, dBM, isLst, iSeqD, iR1, iR2, iR3, dYes, rdAddV, rdMulV, rdSub, rdDiv, rdMod, rdPow, rdIAdd, rdCmp, rdIsN, isn_non, isn_bl, isn_int, isn_str, isn_ref, isn_tup, isn_rol, isn_obj, rdEqG, rdIx_tup, rdIx_rol, rdIx_put, rdSet, rdLen_tup, rdLen_rol, rdLen_str, rdLen_put, rdInt1, rdInt, rdInt2, rdAppend, rdExt, rdPopAt, rdMaxL, rdMinL, rdListV, rdIsB, isBlV, rdStrI, rdIntS, dFrz, dFld, insOf_put, dMeth, lstOf_rol, lstOf_put, seqOf_tup, seqOf_rol, seqOf_put, frz_tup, frz_rol, frz_int, frz_bl, frz_non, frz_str, frz_obj, startN, wipeD, List.map_cons, List.map_nil, List.length_cons, List.length_nil, Nat.zero_add, Nat.sub_self, Nat.reduceAdd, Nat.reduceSub, List.replicate_succ, List.replicate_zero, List.cons_append, List.nil_append, List.append_nil, List.getElem?_cons_zero, List.getElem?_cons_succ, List.set_cons_zero, List.set_cons_succ, Option.some.injEq, exists_eq_left', DEnds.xd, atI_0, atI_1, atI_2, atI_3, atI_4, atI_5, atI_6, atI_7, ixN_50, ixN_51, ixN_52, ixN_53, ixN_54, ixN_30, ixN_31, ixN_32, put_same, put_put, true_and, and_true, decide_true, decide_false, Bool.not_true, Bool.not_false, Bool.false_eq_true, if_true, if_false, decide_eq_true_eq, Bool.not_eq_true', decide_eq_false_iff_not, mem_one, ex_one, and_self]
    by_cases h1 : a ≤ i
    · simp only [h1, decide_true, Bool.true_and] at h ⊢
      exact h
    · simp only [h1, decide_false, Bool.false_and] at h ⊢
      exact h
  | _ => exact h
/-! ### rows -/
theorem all_map {xs : List Dv} {f : Dv → Bool} : xs.map (fun x => Dv.bl (f x)) = (xs.map f).map Dv.bl := by rw [List.map_map]; rfl
theorem rangeL_mem {lo : Int} {n i : Nat} {x : Dv} (h : (rangeL lo n 1)[i]? = some x) : i < n ∧ x = .int (lo + i) := by
  obtain ⟨h1, h2⟩ := rangeL_get h
  rw [Int.mul_one] at h2
  exact ⟨h1, h2⟩
theorem map_get {α β : Type} {f : α → β} {xs : List α} {i : Nat} {y : β} (h : (xs.map f)[i]? = some y) : ∃ x, xs[i]? = some x ∧ y = f x := by
  rw [List.getElem?_map, Option.map_eq_some_iff] at h
  obtain ⟨x, h1, h2⟩ := h
  exact ⟨x, h1, h2.symm⟩
end Lw

namespace Lw
open PySem PySem.Spec PyProof.Rows L2 VD
/-! ### equality of data without truth values -/
def clean : Nat → Dv → Prop
  | 0, _ => False
  | n + 1, d => match d with
    | .non => True
    | .int _ => True
    | .str x => PyData.strOk x = true
    | .tup xs => ∀ x ∈ xs, clean n x
    | .rol xs => ∀ x ∈ xs, clean n x
    | _ => False
theorem clean_list {n : Nat} (ih : ∀ d, clean n d → isD d = true ∧ PyData.canLay0 (py d) = true ∧ PyData.depth (py d) ≤ n) : ∀ xs : List Dv, (∀ x ∈ xs, clean n x) → isDL xs = true ∧ PyData.canLayAll0 (pyL xs) = true ∧ PyData.depthAll (pyL xs) ≤ n
  | [], _ => ⟨rfl, rfl, Nat.zero_le _⟩
  | x :: xs, h => by
    obtain ⟨a1, a2, a3⟩ := ih x (h x (by simp))
    obtain ⟨b1, b2, b3⟩ := clean_list ih xs fun y hy => h y (by simp [hy])
    refine ⟨by simp [isDL, a1, b1], by simp [pyL, PyData.canLayAll0, a2, b2], ?_⟩
    simp only [pyL, PyData.depthAll]
    omega
theorem clean_d : ∀ (n : Nat) (d : Dv), clean n d → isD d = true ∧ PyData.canLay0 (py d) = true ∧ PyData.depth (py d) ≤ n
  | 0, _, h => h.elim
  | n + 1, d, h => by
    cases d with
    | non => exact ⟨rfl, rfl, by simp [py, PyData.depth]⟩
    | int => exact ⟨rfl, rfl, by simp [py, PyData.depth]⟩
    | str x => exact ⟨rfl, by unfold clean at h; simpa [py, PyData.canLay0] using h, by simp [py, PyData.depth]⟩
    | tup xs =>
      obtain ⟨b1, b2, b3⟩ := clean_list (clean_d n) xs h
      exact ⟨by simpa [isD] using b1, by simpa [py, PyData.canLay0] using b2, by simp only [py, PyData.depth]; omega⟩
    | rol xs =>
      obtain ⟨b1, b2, b3⟩ := clean_list (clean_d n) xs h
      exact ⟨by simpa [isD] using b1, by simpa [py, PyData.canLay0] using b2, by simp only [py, PyData.depth]; omega⟩
    | _ => exact h.elim
theorem shp_clean {n : Nat} {d : Dv} (h : clean n d) (hn : n ≤ 64 := by decide) : shp d = true := by
  obtain ⟨a1, a2, a3⟩ := clean_d n d h
  unfold shp SeqAt.shaped
  rw [a1, a2]
  simp
  omega
theorem eqv_list {n m : Nat} (ih : ∀ d e, clean n d → clean m e → (eqvD d e = true ↔ d = e)) : ∀ xs ys : List Dv, (∀ x ∈ xs, clean n x) → (∀ y ∈ ys, clean m y) → (eqvL xs ys = true ↔ xs = ys)
  | [], [], _, _ => by simp [eqvL, pyL, PyData.eqvAll]
  | [], _ :: _, _, _ => by simp [eqvL, pyL, PyData.eqvAll]
  | _ :: _, [], _, _ => by simp [eqvL, pyL, PyData.eqvAll]
  | x :: xs, y :: ys, h1, h2 => by
    have a := ih x y (h1 x (by simp)) (h2 y (by simp))
    have b := eqv_list ih xs ys (fun z hz => h1 z (by simp [hz])) fun z hz => h2 z (by simp [hz])
    unfold eqvL at b ⊢
    unfold eqvD at a
    simp only [pyL, PyData.eqvAll, Bool.and_eq_true, a, b, List.cons.injEq]
theorem eqv_clean : ∀ (n m : Nat) (d e : Dv), clean n d → clean m e → (eqvD d e = true ↔ d = e)
  | 0, _, _, _, h, _ => h.elim
  | _ + 1, 0, _, _, _, h => h.elim
  | n + 1, m + 1, d, e, h1, h2 => by
    have L := fun xs ys => eqv_list (eqv_clean n m) xs ys
    unfold eqvL at L
    cases d <;> first
      | exact h1.elim
      | (cases e <;> first
        | exact h2.elim
        | (rename_i xs ys; simp only [eqvD, py, PyData.eqv, Dv.tup.injEq]; exact L xs ys h1 h2)
        | (rename_i xs ys; simp only [eqvD, py, PyData.eqv, Dv.rol.injEq]; exact L xs ys h1 h2)
        | simp [eqvD, py, PyData.eqv])
theorem eqv_dec {n : Nat} {d e : Dv} {p : Prop} [Decidable p] (h : clean n d) (h2 : clean n e) (hp : d = e ↔ p) : eqvD d e = decide p := by
  rw [Bool.eq_iff_iff, eqv_clean n n d e h h2, hp, decide_eq_true_iff]
/-- == of data of these kinds that are not lists in the store -/
theorem eqG_of {f : Bool → Bool} {n : Nat} {x y d e : Dv} {S : Sto} {Q : QD} {p : Prop} [Decidable p] (hx : valOf x S = d) (hy : valOf y S = e) (h : clean n d) (h2 : clean n e) (hp : d = e ↔ p) (q : Q (.bl (f (decide p))) S) (hn : n ≤ 64 := by decide) : rdEqG f x y S Q := by
  unfold rdEqG
  split
  · have e1 : (p ↔ _) := hp.symm
    simp only [VD.valOf] at hx hy
    subst hx; subst hy
    simp only [Dv.int.injEq] at hp
    rw [show decide _ = decide p from decide_eq_decide.mpr hp]; exact q
  · simp only [VD.valOf] at hx hy
    subst hx
    cases n with
    | zero => exact h.elim
    | succ n => exact h.elim
  · simp only [VD.valOf] at hx hy
    subst hx; subst hy
    simp only [Dv.str.injEq] at hp
    rw [show decide _ = decide p from decide_eq_decide.mpr hp]; exact q
  · rw [hx, hy, eqv_dec h h2 hp]
    exact ⟨⟨shp_clean h hn, shp_clean h2 hn⟩, q⟩
theorem len_law (A : Ad) : ∀ ds S Q X, spLaw ds S Q X → ds.length = 1 := by rintro _ _ _ _ ⟨_, rfl, _⟩; rfl
end Lw

namespace Lw
open PySem PySem.Spec PyProof.Rows L2 VD
local macro_rules
  | `(tactic| simp_arith only [$xs,*]) => `(tactic| simp only [dSeq, dAsg, dRet, dRetN, dDrop, dRaise, dBreak, dCont, dPar, dAug, dFor, dNext, dSetF, dAugF, dRaiseF, dIfS, dTest, dOp, dVar, dC, dCB, dCons, dNil, dCall, dAndV, dOrV, dNotV, dAndT, dOrT, dNotT, dIf, dTup, dLst, dLstV, dSl, dSlV, oSome, oNone, dNeg, gN, gT, gConsD, gNilD, gSubD, gFldD, dChain, dLc, dBM, isLst, iSeqD, iR1, iR2, iR3, dYes, isn_non, isn_bl, isn_int, isn_str, isn_ref, isn_tup, isn_rol, isn_obj, rdIx_tup, rdIx_rol, rdIx_put, rdSet, rdLen_tup, rdLen_rol, rdLen_str, rdLen_put, rdAppend, rdExt, rdPopAt, rdIsB, isBlV, rdStrI, rdIntS, dFrz, dFld, insOf_put, dMeth, lstOf_rol, lstOf_put, seqOf_tup, seqOf_rol, seqOf_put, frz_tup, frz_rol, frz_int, frz_bl, frz_non, frz_str, frz_obj, startN, wipeD, List.map_cons, List.map_nil, List.length_cons, List.length_nil, Nat.zero_add, Nat.sub_self, Nat.reduceAdd, Nat.reduceSub, List.replicate_succ, List.replicate_zero, List.cons_append, List.nil_append, List.append_nil, List.getElem?_cons_zero, List.getElem?_cons_succ, List.set_cons_zero, List.set_cons_succ, Option.some.injEq, exists_eq_left', atI_0, atI_1, atI_2, atI_3, atI_4, atI_5, atI_6, atI_7, ixN_50, ixN_51, ixN_52, ixN_53, ixN_54, ixN_30, ixN_31, ixN_32, put_same, put_put, true_and, and_true, decide_true, decide_false, Bool.not_true, Bool.not_false, Bool.false_eq_true, if_true, if_false, decide_eq_true_eq, Bool.not_eq_true', decide_eq_false_iff_not, mem_one, ex_one, and_self, xd_mk, qAdd_i, qAdd_t, qAdd_s, qAdd_l, qMul_i, qMul_t, qMul_l, qSub_i, qDiv_i, qMod_i, qPow_i, qIAdd_i, qEq_i, qEq_b, qEq_s, qCmp_i, qIsN, qSl_t, qSl_l, qSl_s, qInt_i, qInt_b, qInt1, qMax, qMin, qList_t, qList_l, $xs,*])
local macro_rules
  | `(tactic| simp_arith! only [$xs,*]) => `(tactic| simp only [dSeq, dAsg, dRet, dRetN, dDrop, dRaise, dBreak, dCont, dPar, dAug, dFor, dNext, dSetF, dAugF, dRaiseF, dIfS, dTest, dOp, dVar, dC, dCB, dCons, dNil, dCall, dAndV, dOrV, dNotV, dAndT, dOrT, dNotT, dIf, dTup, dLst, dLstV, dSl, dSlV, rdSlV, oSome, oNone, dNeg, gN, gT, gConsD, gNilD, gSubD, gFldD, dChain, dLc, dBM, isLst, iSeqD, iR1, iR2, iR3, dYes, rdAddV, rdMulV, rdSub, rdDiv, rdMod, rdPow, rdIAdd, rdCmp, rdIsN, isn_non, isn_bl, isn_int, isn_str, isn_ref, isn_tup, isn_rol, isn_obj, rdEqG, rdIx_tup, rdIx_rol, rdIx_put, rdSet, rdLen_tup, rdLen_rol, rdLen_str, rdLen_put, rdInt1, rdInt, rdInt2, rdAppend, rdExt, rdPopAt, rdMaxL, rdMinL, rdListV, rdIsB, isBlV, rdStrI, rdIntS, dFrz, dFld, insOf_put, dMeth, lstOf_rol, lstOf_put, seqOf_tup, seqOf_rol, seqOf_put, frz_tup, frz_rol, frz_int, frz_bl, frz_non, frz_str, frz_obj, startN, wipeD, List.map_cons, List.map_nil, List.length_cons, List.length_nil, Nat.zero_add, Nat.sub_self, Nat.reduceAdd, Nat.reduceSub, List.replicate_succ, List.replicate_zero, List.cons_append, List.nil_append, List.append_nil, List.getElem?_cons_zero, List.getElem?_cons_succ, List.set_cons_zero, List.set_cons_succ, Option.some.injEq, exists_eq_left', DEnds.xd, atI_0, atI_1, atI_2, atI_3, atI_4, atI_5, atI_6, atI_7, ixN_50, ixN_51, ixN_52, ixN_53, ixN_54, ixN_30, ixN_31, ixN_32, put_same, put_put, true_and, and_true, decide_true, decide_false, Bool.not_true, Bool.not_false, Bool.false_eq_true, if_true, if_false, decide_eq_true_eq, Bool.not_eq_true', decide_eq_false_iff_not, mem_one, ex_one, and_self, $xs,*])
/-! ### the law's hand (k00 to k16, k67 to k75): [cells, at, great, seed, count] at a; what else is known is B -/
def hndD (cells : List Int) (i : Nat) (g s n : Int) : List Dv := [.rol (List.map Dv.int cells), .int (i : Nat), .int g, .int s, .int n]
def IsH (a : Addr) (B S : Sto) : Prop := ∃ (cells : List Int) (i : Nat) (g s n : Int), S = put B a (.lst (hndD cells i g s n))
section
variable {B S T : Sto} {a p : Addr} {m : MO}
theorem IsH.at_ (h : IsH a B S) (ha : p ≠ a) : S p = B p := by
  obtain ⟨cells, i, g, s, n, rfl⟩ := h
  rw [put_ne ha]
theorem IsH.free (h : IsH a B S) (hp : S p = none) : p ≠ a ∧ B p = none := by
  have ha : p ≠ a := fun e => by
    obtain ⟨cells, i, g, s, n, rfl⟩ := h
    subst e
    rw [put_same] at hp
    cases hp
  exact ⟨ha, by rw [← h.at_ ha]; exact hp⟩
theorem IsH.wr (h : IsH a B S) (ha : p ≠ a) : IsH a (put B p m) (put S p m) := by
  obtain ⟨cells, i, g, s, n, rfl⟩ := h
  exact ⟨cells, i, g, s, n, by rw [put_comm ha.symm]⟩
theorem IsH.new (h : IsH a B S) (hp : S p = none) : IsH a (put B p m) (put S p m) := h.wr (h.free hp).1
theorem IsH.rm (h : IsH a B S) (ha : p ≠ a) : IsH a (VD.rm B p) (VD.rm S p) := by
  obtain ⟨cells, i, g, s, n, rfl⟩ := h
  refine ⟨cells, i, g, s, n, ?_⟩
  funext b
  unfold VD.rm put
  by_cases h1 : b = p
  · subst h1
    simp [ha]
  · simp [h1]
theorem IsH.rmNew (h : IsH a (put B p m) S) (hB : B p = none) (ha : p ≠ a) : IsH a B (VD.rm S p) := by
  have := h.rm ha
  rwa [rm_put hB] at this
theorem IsH.off (h : IsH a B S) (ea : T a = S a) : IsH a T T := by
  obtain ⟨cells, i, g, s, n, rfl⟩ := h
  rw [put_same] at ea
  exact ⟨cells, i, g, s, n, (put_self ea).symm⟩
theorem IsH.self (h : IsH a B S) : IsH a S S := h.off rfl
theorem IsH.some_a (h : IsH a B S) : S a ≠ none := by
  obtain ⟨cells, i, g, s, n, rfl⟩ := h
  rw [put_same]
  simp
theorem IsH.trans (h : IsH a B S) (k : IsH a S T) : IsH a B T := by
  obtain ⟨cells, i, g, s, n, rfl⟩ := h
  obtain ⟨cells2, i2, g2, s2, n2, rfl⟩ := k
  exact ⟨cells2, i2, g2, s2, n2, by rw [put_put]⟩
theorem IsH.putN (h : IsH a B S) (hp : S p = none) : IsH a (put S p m) (put S p m) := h.off (put_ne fun z => h.some_a (by rw [z]; exact hp))
theorem IsH.subH (h : IsH a B S) (s : VD.Sub S T) : IsH a T T := by
  obtain ⟨m, e⟩ := Option.ne_none_iff_exists'.mp h.some_a
  exact h.off ((s _ _ e).trans e.symm)
end
def sp__law_take (A : Ad) : SpD := fun ds S Q _ => ∃ a B m, ds = [.ref a, .int m] ∧ IsH a B S ∧ 0 < m ∧ m.natAbs < 2 ^ 8000 ∧ ∀ r S', IsH a B S' → 0 ≤ r → r < m → Q (.int r) S'
theorem len__law_take (A : Ad) : ∀ ds S Q X, sp__law_take A ds S Q X → ds.length = 2 := by rintro _ _ _ _ ⟨_, _, _, rfl, _⟩; rfl
/-- how a draw is asked for -/
theorem ask {A : Ad} {a : Addr} {B S : Sto} {m : Int} {Q : QD} {X : XD} (hH : IsH a B S) (q : ∀ r S', IsH a B S' → 0 ≤ r → r < m → Q (.int r) S') (hm : 0 < m := by decide) (hm2 : m < 2 ^ 64 := by decide) : sp__law_take A [.ref a, .int m] S Q X :=
  ⟨a, B, m, rfl, hH, hm, Nat.lt_of_lt_of_le (show m.natAbs < 2 ^ 64 by omega) (Nat.pow_le_pow_right (by decide) (by decide)), q⟩
/-- a comprehension whose element draws: what holds of each item, by place -/
theorem lcV_hand {g : DG} {te : DE} {vs : List Nat} {ρ : Rho} {Q : QD} {items : List Dv} {stay : Sto → Prop} {B S : Sto} {a : Addr} (P : Nat → Dv → Prop) (hH : IsH a B S) (hl : items.length ≤ sizeLine)
    (hst : ∀ B' T, Sub B B' → IsH a B' T → stay T)
    (he : ∀ i x, items[i]? = some x → ∀ (B' T : Sto) (K : QD), Sub B B' → IsH a B' T → (∀ y T', P i y → IsH a B' T' → K y T') → g x (wipeD ρ vs) T fun ρ2 S2 => te ρ2 S2 K X0)
    (hQ : ∀ acc T, IsH a B T → acc.length = items.length → (∀ i y, acc[i]? = some y → P i y) → Q (.rol acc) T) : LcGo g dYes te vs ρ (fun d S1 => frzD d S1 Q) items stay S := by
  intro p hp
  obtain ⟨ha, hB⟩ := hH.free hp
  refine ⟨fun i T => ∃ acc : List Dv, acc.length = i ∧ (∀ j y, acc[j]? = some y → P j y) ∧ IsH a (put B p (.lst acc)) T, ⟨[], rfl, fun j y h => by simp at h, hH.new hp⟩, fun i T _ ⟨acc, _, _, h⟩ => hst _ T (Sub.new hB) h, fun i x T hx ⟨acc, h4, h5, h⟩ => ?_, fun T ⟨acc, h4, h5, h⟩ => ?_⟩
  · refine he i x hx _ T _ (Sub.new hB) h fun y T' hy ht => ⟨acc, by rw [ht.at_ ha, put_same], ?_, acc ++ [y], by simp [h4], fun j z hz => ?_, ?_⟩
    · have := (List.getElem?_eq_some_iff.mp hx).1
      omega
    · by_cases hj : j < acc.length
      · rw [List.getElem?_append_left hj] at hz
        exact h5 j z hz
      · rw [List.getElem?_append_right (by omega)] at hz
        obtain ⟨h6, e⟩ : j - acc.length = 0 ∧ y = z := by
          cases hk : j - acc.length with
          | zero => rw [hk] at hz; exact ⟨rfl, Option.some.inj hz⟩
          | succ k => rw [hk] at hz; simp at hz
        rw [show j = i by omega, ← e]
        exact hy
    · have := ht.wr (m := .lst (acc ++ [y])) ha
      rwa [put_put] at this
  · have e : T p = some (.lst acc) := by rw [h.at_ ha, put_same]
    unfold frzD
    dsimp only
    rw [e]
    exact hQ acc _ (h.rmNew hB ha) h4 h5
theorem mul_small {i j : Int} (h : 0 ≤ i) (h2 : i < 2147483647) : IntMulOk i j := mulok_l (by omega) (by omega)
def sp__law_hand (A : Ad) : SpD := fun ds S Q _ => ∃ ns : List Int, ds = [.rol (List.map Dv.int ns)] ∧ ns.length ≤ 63 ∧ ∀ a S', S a = none → IsH a S S' → Q (.ref a) S'
theorem len__law_hand (A : Ad) : ∀ ds S Q X, sp__law_hand A ds S Q X → ds.length = 1 := by rintro _ _ _ _ ⟨_, rfl, _⟩; rfl
def r__law_hand (A : Ad) : DS := (dRet (dLst (dCons (dCB rdListV (dCons (dVar 0) dNil)) (dCons (dC (.int 0)) (dCons (dC (.int 0)) (dCons (dC (.int 1)) (dCons (dC (.int 0)) dNil)))))))
theorem rd__law_hand (A : Ad) : Rd (r__law_hand A) 1 (sp__law_hand A) := by
  rintro ds S Q X ⟨ns, rfl, hl, h⟩
  unfold r__law_hand
  simp_arith only [and_self]
  exact ⟨slK, fun a ha => h a _ ha ⟨_, 0, 0, _, 0, rfl⟩⟩
def r__law_take (A : Ad) : DS := (dSeq (dAsg (dOp rdAddV (dOp rdIx (dVar 0) (dC (.int 4))) (dC (.int 1))) (gSubD rdSet (dVar 0) (dC (.int 4))))
    (dSeq (dIfS (dAndT (dTest (dOp rdEq (dOp rdIx (dVar 0) (dC (.int 2))) (dC (.int 0)))) (dTest (dOp rdLt (dOp rdIx (dVar 0) (dC (.int 1))) (dCB rdLen (dCons (dOp rdIx (dVar 0) (dC (.int 0))) dNil))))) (dSeq (dAsg (dCB rdInt (dCons (dOp rdIx (dOp rdIx (dVar 0) (dC (.int 0))) (dOp rdIx (dVar 0) (dC (.int 1)))) dNil)) (gN 2))
    (dSeq (dAsg (dOp rdAddV (dOp rdIx (dVar 0) (dC (.int 1))) (dC (.int 1))) (gSubD rdSet (dVar 0) (dC (.int 1))))
    (dIfS (dTest (dOp rdGe (dVar 2) (dOp rdPow (dC (.int 10)) (dC (.int 18))))) (dAsg (dVar 2) (gSubD rdSet (dVar 0) (dC (.int 2)))) (dAsg (dOp rdMod (dCB rdInt (dCons (dOp rdAddV (dOp rdAddV (dOp rdMulV (dOp rdIx (dVar 0) (dC (.int 3))) (dC (.int 48271))) (dOp rdMod (dCB rdInt (dCons (dVar 2) dNil)) (dC (.int 2147483647)))) (dC (.int 1))) dNil)) (dC (.int 2147483647))) (gSubD rdSet (dVar 0) (dC (.int 3))))))) dNext)
    (dSeq (dIfS (dTest (dOp rdGt (dOp rdIx (dVar 0) (dC (.int 2))) (dC (.int 0)))) (dSeq (dAsg (dOp rdMod (dCB rdInt (dCons (dOp rdIx (dVar 0) (dC (.int 2))) dNil)) (dVar 1)) (gN 3))
    (dSeq (dAsg (dOp rdDiv (dCB rdInt (dCons (dOp rdIx (dVar 0) (dC (.int 2))) dNil)) (dVar 1)) (gSubD rdSet (dVar 0) (dC (.int 2))))
    (dRet (dVar 3)))) dNext)
    (dSeq (dAsg (dOp rdMod (dCB rdInt (dCons (dOp rdAddV (dOp rdMulV (dOp rdIx (dVar 0) (dC (.int 3))) (dC (.int 69621))) (dOp rdMulV (dC (.int 7919)) (dOp rdIx (dVar 0) (dC (.int 4))))) dNil)) (dC (.int 2147483647))) (gSubD rdSet (dVar 0) (dC (.int 3))))
    (dSeq (dAsg (dOp rdMod (dCB rdInt (dCons (dOp rdMulV (dOp rdIx (dVar 0) (dC (.int 3))) (dOp rdAddV (dOp rdDiv (dOp rdIx (dVar 0) (dC (.int 3))) (dC (.int 1009))) (dC (.int 69621)))) dNil)) (dC (.int 2147483647))) (gN 4))
    (dSeq (dAsg (dOp rdMod (dCB rdInt (dCons (dOp rdMulV (dVar 4) (dOp rdAddV (dOp rdDiv (dVar 4) (dC (.int 2003))) (dC (.int 40692)))) dNil)) (dC (.int 2147483399))) (gN 4))
    (dRet (dOp rdMod (dCB rdInt (dCons (dOp rdDiv (dVar 4) (dC (.int 16))) dNil)) (dVar 1)))))))))
theorem rd__law_take (A : Ad) : Rd (r__law_take A) 5 (sp__law_take A) := by
  rintro ds S Q X ⟨a, B, m, rfl, hH, hm, hm2, h⟩
  unfold r__law_take
  refine cut_seq (fun ρ T => IsH a B T ∧ ρ = [some (.ref a), some (.int m), none, none, none]) (fun N hN => ?_) (fun ρ T hM => ?_)
  · obtain ⟨cells, i, g, s, n, rfl⟩ := hH
    unfold hndD
    simp_arith! only [and_self]
    exact hN _ _ ⟨⟨cells, i, g, s, n + 1, rfl⟩, rfl⟩
  clear hH
  obtain ⟨hH, rfl⟩ := hM
  refine cut_seq (fun ρ T => IsH a B T ∧ ∃ y, ρ = [some (.ref a), some (.int m), y, none, none]) (fun N hN => ?_) (fun ρ T hM => ?_)
  · have hH0 := hH
    obtain ⟨cells, i, g, s, n, rfl⟩ := hH
    unfold hndD
    simp_arith! only [and_self]
    by_cases hg : g = 0
    · rw [if_pos hg]
      by_cases hi : (i : Int) < ((List.map Dv.int cells).length : Nat)
      · rw [if_pos hi]
        have hi2 : i < cells.length := by rw [List.length_map] at hi; omega
        refine ⟨.int cells[i], by rw [atI_nn (by omega), Int.toNat_natCast, List.getElem?_map, List.getElem?_eq_getElem hi2]; rfl, ?_⟩
        simp_arith! only [and_self]
        refine ⟨⟨by decide, by decide, by decide⟩, ?_⟩
        by_cases hc : (10 : Int) ^ Int.toNat 18 ≤ cells[i]
        · rw [if_pos (by simpa using hc)]
          exact hN _ _ ⟨⟨cells, i + 1, _, _, n, rfl⟩, _, rfl⟩
        · rw [if_neg (by simpa using hc)]
          exact ⟨mulok_r (by decide) (by decide), by decide, by decide, hN _ _ ⟨⟨cells, i + 1, _, _, n, rfl⟩, _, rfl⟩⟩
      · rw [if_neg hi]
        exact hN _ _ ⟨hH0, _, rfl⟩
    · rw [if_neg hg]
      exact hN _ _ ⟨hH0, _, rfl⟩
  clear hH
  obtain ⟨hH, y, rfl⟩ := hM
  refine cut_seq (fun ρ T => IsH a B T ∧ ∃ y, ρ = [some (.ref a), some (.int m), y, none, none]) (fun N hN => ?_) (fun ρ T hM => ?_)
  · have hH0 := hH
    obtain ⟨cells, i, g, s, n, rfl⟩ := hH
    unfold hndD
    simp_arith! only [and_self]
    by_cases hg : 0 < g
    · rw [if_pos (by simpa using hg)]
      refine ⟨hm, divp 8000 hm hm2, h _ _ ⟨cells, i, g / m, s, n, rfl⟩ (Int.emod_nonneg _ (by omega)) (Int.emod_lt_of_pos _ hm)⟩
    · rw [if_neg (by simpa using hg)]
      exact hN _ _ ⟨hH0, _, rfl⟩
  clear hH
  obtain ⟨hH, y, rfl⟩ := hM
  obtain ⟨cells, i, g, s, n, rfl⟩ := id hH
  unfold hndD
  simp_arith! only [and_self]
  have b1 : ∀ x : Int, 0 ≤ x % 2147483647 ∧ x % 2147483647 < 2147483647 := fun x => by omega
  exact ⟨mulok_r (by decide) (by decide), mulok_l (by decide) (by decide), by decide, divp 64 (by decide) (by decide), mul_small (b1 _).1 (b1 _).2, by decide, divp 64 (by decide) (by decide), mul_small (b1 _).1 (b1 _).2, by decide, divp 64 (by decide) (by decide), hm, h _ _ ⟨cells, i, g, _, n, rfl⟩ (Int.emod_nonneg _ (by omega)) (Int.emod_lt_of_pos _ hm)⟩
theorem ask_ix {A : Ad} {a : Addr} {B S : Sto} {xs : List Dv} {Q : QD} {X : XD} (hH : IsH a B S) (q : ∀ (r : Nat) d S', IsH a B S' → xs[r]? = some d → Q d S') (hm : 0 < xs.length := by simp) (hm2 : (xs.length : Int) < 2 ^ 64 := by simp) :
    sp__law_take A [.ref a, .int xs.length] S (fun y S1 => rdIx (.rol xs) y S1 Q) X := ask hH (fun r S' h h0 h1 => by
  rw [rdIx_rol]
  obtain ⟨d, hd⟩ : ∃ d, xs[r.toNat]? = some d := ⟨_, List.getElem?_eq_getElem (by omega : r.toNat < xs.length)⟩
  exact ⟨d, by rw [atI_nn h0]; exact hd, q r.toNat d S' h hd⟩) (by omega) hm2
/-- one of some -/
def sp__law_pick (A : Ad) : SpD := fun ds S Q _ => ∃ a B xs, ds = [.ref a, .rol xs] ∧ IsH a B S ∧ 0 < xs.length ∧ xs.length < 1000 ∧ ∀ d S', IsH a B S' → d ∈ xs → Q d S'
theorem len__law_pick (A : Ad) : ∀ ds S Q X, sp__law_pick A ds S Q X → ds.length = 2 := by rintro _ _ _ _ ⟨_, _, _, rfl, _⟩; rfl
def r__law_pick (A : Ad) : DS := (dRet (dOp rdIx (dVar 1) (dCall (sp__law_take A) (dCons (dVar 0) (dCons (dCB rdLen (dCons (dVar 1) dNil)) dNil)))))
theorem rd__law_pick (A : Ad) : Rd (r__law_pick A) 2 (sp__law_pick A) := by
  rintro ds S Q X ⟨a, B, xs, rfl, hH, h0, h1, h⟩
  unfold r__law_pick
  simp_arith only [and_self]
  exact ask_ix hH (fun r d S' hS e => h d S' hS (List.mem_of_getElem? e)) h0 (by omega)
end Lw

--CLS Ground
namespace Lw
open PySem PySem.Spec PyProof.Rows L2 VD
local macro_rules
  | `(tactic| simp_arith only [$xs,*]) => `(tactic| simp only [dSeq, dAsg, dRet, dRetN, dDrop, dRaise, dBreak, dCont, dPar, dAug, dFor, dNext, dSetF, dAugF, dRaiseF, dIfS, dTest, dOp, dVar, dC, dCB, dCons, dNil, dCall, dAndV, dOrV, dNotV, dAndT, dOrT, dNotT, dIf, dTup, dLst, dLstV, dSl, dSlV, oSome, oNone, dNeg, gN, gT, gConsD, gNilD, gSubD, gFldD, dChain, dLc, dBM, isLst, iSeqD, iR1, iR2, iR3, dYes, isn_non, isn_bl, isn_int, isn_str, isn_ref, isn_tup, isn_rol, isn_obj, rdIx_tup, rdIx_rol, rdIx_put, rdSet, rdLen_tup, rdLen_rol, rdLen_str, rdLen_put, rdAppend, rdExt, rdPopAt, rdIsB, isBlV, rdStrI, rdIntS, dFrz, dFld, insOf_put, dMeth, lstOf_rol, lstOf_put, seqOf_tup, seqOf_rol, seqOf_put, frz_tup, frz_rol, frz_int, frz_bl, frz_non, frz_str, frz_obj, startN, wipeD, List.map_cons, List.map_nil, List.length_cons, List.length_nil, Nat.zero_add, Nat.sub_self, Nat.reduceAdd, Nat.reduceSub, List.replicate_succ, List.replicate_zero, List.cons_append, List.nil_append, List.append_nil, List.getElem?_cons_zero, List.getElem?_cons_succ, List.set_cons_zero, List.set_cons_succ, Option.some.injEq, exists_eq_left', atI_0, atI_1, atI_2, atI_3, atI_4, atI_5, atI_6, atI_7, ixN_50, ixN_51, ixN_52, ixN_53, ixN_54, ixN_30, ixN_31, ixN_32, put_same, put_put, true_and, and_true, decide_true, decide_false, Bool.not_true, Bool.not_false, Bool.false_eq_true, if_true, if_false, decide_eq_true_eq, Bool.not_eq_true', decide_eq_false_iff_not, mem_one, ex_one, and_self, xd_mk, qAdd_i, qAdd_t, qAdd_s, qAdd_l, qMul_i, qMul_t, qMul_l, qSub_i, qDiv_i, qMod_i, qPow_i, qIAdd_i, qEq_i, qEq_b, qEq_s, qCmp_i, qIsN, qSl_t, qSl_l, qSl_s, qInt_i, qInt_b, qInt1, qMax, qMin, qList_t, qList_l, i_Ground, l_Ground, h_Ground_eq, g_Ground_rows, p_Ground_rows, k_Ground_rows, g_Ground_wide, p_Ground_wide, k_Ground_wide, g_Ground_high, p_Ground_high, k_Ground_high, $xs,*])
/-! ### grounds -/
def sgL : List Nat := [46, 35, 48, 49, 50, 51, 52, 53, 54, 55, 56, 57]
def isSg (c : Nat) : Bool := decide (c ∈ sgL)
/-- a row of a ground -/
def rowS (d : Dv) : Bool := match d with
  | .str z => decide (1 ≤ z.length) && decide (z.length ≤ 40) && z.cps.toList.all isSg
  | _ => false
def lenS (d : Dv) : Nat := match d with
  | .str z => z.length
  | _ => 0
def goodS (n : Nat) (d : Dv) : Bool := rowS d && decide (lenS d = n)
def firstB (xs : List Dv) (n : Nat) (i : Nat) : Option Int := match xs with
  | [] => none
  | x :: r => if goodS n x = true then firstB r n (i + 1) else some (i : Int)
/-- the first part that is none -/
def badG (d : Dv) : Option Int := match d with
  | .tup xs => if 1 ≤ xs.length ∧ xs.length ≤ 30 then firstB xs (lenS (xs.getD 0 .non)) 0 else some (-1)
  | _ => some (-1)
theorem str1 : Str.ofString "#" = ⟨#[35]⟩ := by decide +kernel
theorem sg_law : (Str.ofString "#.0123456789").cps.toList = [35, 46, 48, 49, 50, 51, 52, 53, 54, 55, 56, 57] := by decide +kernel
theorem sg_prog : (Str.ofString "." ++ Str.ofString "#" ++ Str.ofString "0123456789").cps.toList = sgL := by decide +kernel
def isSz (a b : Int) (d : Dv) : Bool := match d with
  | .tup xs => decide (a ≤ (xs.length : Int)) && decide ((xs.length : Int) ≤ b)
  | _ => false
def sp_is_sized (A : Ad) : SpD := fun ds S Q _ => ∃ d a b, ds = [d, .int a, .int b] ∧ known A S d ∧ Q (.bl (isSz a b d)) S
theorem len_is_sized (A : Ad) : ∀ ds S Q X, sp_is_sized A ds S Q X → ds.length = 3 := by rintro _ _ _ _ ⟨_, _, _, rfl, _⟩; rfl
def r_is_sized (A : Ad) : DS := (dRet (dAndV (dCB (rdIsi A.ot) (dCons (dVar 0) (dCons (dC (.ty "tuple")) dNil))) (dChain rdLe rdLe (dVar 1) (dCB rdLen (dCons (dVar 0) dNil)) (dVar 2))))
theorem rd_is_sized (A : Ad) : Rd (r_is_sized A) 3 (sp_is_sized A) := by
  rintro ds S Q X ⟨d, a, b, rfl, hk, h⟩
  unfold r_is_sized
  simp_arith only [and_self]
  refine isi_tuple hk ?_
  cases d with
  | tup xs =>
    unfold isTup
    have h : Q (.bl (decide (a ≤ (xs.length : Int)) && decide ((xs.length : Int) ≤ b))) S := h
    simp_arith only [and_self]
    by_cases h1 : a ≤ (xs.length : Int)
    · rw [decide_eq_true h1, Bool.true_and] at h
      rw [decide_eq_true h1]
      exact h
    · rw [decide_eq_false h1, Bool.false_and] at h
      rw [decide_eq_false h1]
      exact h
  | _ => exact h
def sp_check_within (A : Ad) : SpD := fun ds S Q X => ∃ d a b, ds = [d, .int a, .int b] ∧ known A S d ∧ if within d a b = true then Q .non S else X (.ref A.NoNumber) none S
theorem len_check_within (A : Ad) : ∀ ds S Q X, sp_check_within A ds S Q X → ds.length = 3 := by rintro _ _ _ _ ⟨_, _, _, rfl, _⟩; rfl
def r_check_within (A : Ad) : DS := (dIfS (dNotT (dTest (dCall (sp_is_within A) (dCons (dVar 0) (dCons (dVar 1) (dCons (dVar 2) dNil)))))) (dRaise (.ref A.NoNumber)) dNext)
theorem rd_check_within (A : Ad) : Rd (r_check_within A) 3 (sp_check_within A) := by
  rintro ds S Q X ⟨d, a, b, rfl, hk, h⟩
  unfold r_check_within
  simp_arith only [and_self]
  refine ⟨d, a, b, rfl, hk, ?_⟩
  cases e : within d a b with
  | true => rw [e, if_pos rfl] at h; simp_arith only [and_self]; exact h
  | false => rw [e, if_neg (by decide)] at h; simp_arith only [and_self]; exact h
def sp_check_integers (A : Ad) : SpD := fun ds S Q X => ∃ x y, ds = [.tup [x, y]] ∧ known A S x ∧ known A S y ∧ if (isInt x && isInt y) = true then Q .non S else X (.ref A.NoNumber) none S
theorem len_check_integers (A : Ad) : ∀ ds S Q X, sp_check_integers A ds S Q X → ds.length = 1 := by rintro _ _ _ _ ⟨_, _, rfl, _⟩; rfl
def r_check_integers (A : Ad) : DS := (dIfS (dNotT (dTest (dCB rdAll (dCons (dFrz (dLc (iSeqD (dVar 0)) (gN 1) dYes (dCall (sp_is_integer A) (dCons (dVar 1) dNil)) [1])) dNil)))) (dRaise (.ref A.NoNumber)) dNext)
theorem rd_check_integers (A : Ad) : Rd (r_check_integers A) 2 (sp_check_integers A) := by
  rintro ds S Q X ⟨x, y, rfl, kx, ky, h⟩
  unfold r_check_integers
  simp_arith only [and_self]
  refine lcV_pure (fun x => Dv.bl (isInt x)) (by rw [sizeLine_eq]; simp) (fun _ _ _ => trivial) (fun d hx T Kq hs hq => ?_) ?_
  · simp_arith only [and_self]
    refine ⟨d, rfl, ?_, hq⟩
    simp only [List.mem_cons, List.not_mem_nil, or_false] at hx
    rcases hx with rfl | rfl
    · exact kx.sub hs
    · exact ky.sub hs
  · rw [all_map]
    refine all_rol ?_
    rw [show ([x, y].map isInt).all id = (isInt x && isInt y) by simp]
    cases e : (isInt x && isInt y) with
    | true => rw [e, if_pos rfl] at h; simp_arith only [and_self]; exact h
    | false => rw [e, if_neg (by decide)] at h; simp_arith only [and_self]; exact h
/-- known, no long text -/
def kS (A : Ad) (S : Sto) (d : Dv) : Prop := known A S d ∧ ∀ z, d = .str z → z.length ≤ 2000
theorem kS.sub {A : Ad} {S T : Sto} {d : Dv} (h : kS A S d) (s : VD.Sub S T) : kS A T d := ⟨h.1.sub s, h.2⟩
def sgD (d : Dv) : Bool := match d with
  | .str w => isSg (w.cps.toList.headD 0)
  | _ => false
theorem len_cps {z : Str} : z.length = z.cps.toList.length := by simp [Str.length]
def sp_is_row (A : Ad) : SpD := fun ds S Q _ => ∃ d, ds = [d] ∧ kS A S d ∧ Q (.bl (rowS d)) S
theorem len_is_row (A : Ad) : ∀ ds S Q X, sp_is_row A ds S Q X → ds.length = 1 := by rintro _ _ _ _ ⟨_, rfl, _⟩; rfl
def r_is_row (A : Ad) : DS := (dSeq (dIfS (dOrT (dNotT (dTest (dCB (rdIsi A.ot) (dCons (dVar 0) (dCons (dC (.ty "str")) dNil))))) (dNotT (dTest (dChain rdLe rdLe (dC (.int 1)) (dCB rdLen (dCons (dVar 0) dNil)) (dC (.int 40)))))) (dRet (dC (.bl false))) dNext)
    (dRet (dCB rdAll (dCons (dFrz (dLc (iStrD (dVar 0)) (gN 1) dYes (dOp (rdIn1 fun b => b) (dVar 1) (dOp rdAddV (dOp rdAddV (dC (.str (Str.ofString "."))) (dC (.str (Str.ofString "#")))) (dC (.str (Str.ofString "0123456789"))))) [1])) dNil))))
theorem rd_is_row (A : Ad) : Rd (r_is_row A) 2 (sp_is_row A) := by
  rintro ds S Q X ⟨d, rfl, hk, h⟩
  unfold r_is_row
  simp_arith only [and_self]
  refine isi_str hk.1 ?_
  cases d with
  | str z =>
    have hz := hk.2 z rfl
    unfold isStr
    have h : Q (.bl (decide (1 ≤ z.length) && decide (z.length ≤ 40) && z.cps.toList.all isSg)) S := h
    simp_arith only [and_self]
    rw [if_neg (by decide)]
    refine ⟨slK (by omega), ?_⟩
    by_cases h1 : 1 ≤ z.length
    · rw [decide_eq_true (show (1 : Int) ≤ (z.length : Int) by omega)]
      rw [decide_eq_true h1, Bool.true_and] at h
      by_cases h2 : z.length ≤ 40
      · rw [decide_eq_true h2, Bool.true_and] at h
        simp_arith only [and_self]
        rw [if_neg (by omega)]
        unfold iStrD
        simp_arith only [and_self]
        refine lcV_pure (fun d => .bl (sgD d)) (by rw [List.length_map, ← len_cps]; exact slK (by omega)) (fun _ _ _ => trivial) (fun x hx T Kq hs hq => ?_) ?_
        · obtain ⟨c, _, rfl⟩ := List.mem_map.mp hx
          simp_arith only [and_self]
          refine ⟨slK, slK, c, _, rfl, rfl, ?_⟩
          rw [sg_prog]
          exact hq
        · rw [show (z.cps.toList.map fun c => Dv.str ⟨#[c]⟩).map (fun d => Dv.bl (sgD d)) = (z.cps.toList.map isSg).map Dv.bl by rw [List.map_map, List.map_map]; rfl]
          refine all_rol ?_
          rw [List.all_map, Function.id_comp]
          exact h
      · rw [decide_eq_false h2, Bool.false_and] at h
        simp_arith only [and_self]
        rw [if_pos (by omega)]
        exact h
    · rw [decide_eq_false (show ¬ (1 : Int) ≤ (z.length : Int) by omega)]
      rw [decide_eq_false h1, Bool.false_and, Bool.false_and] at h
      exact h
  | _ => exact h
/-! ### class Ground -/
theorem firstB_cons {x : Dv} {r : List Dv} {n i : Nat} : firstB (x :: r) n i = if goodS n x = true then firstB r n (i + 1) else some (i : Int) := by rw [firstB]
theorem firstB_none : ∀ {xs : List Dv} {n i : Nat}, firstB xs n i = none → ∀ x ∈ xs, goodS n x = true
  | [], _, _, _, x, h => by cases h
  | y :: r, n, i, e, x, h => by
    unfold firstB at e
    by_cases c : goodS n y = true
    · rw [if_pos c] at e
      rcases List.mem_cons.mp h with rfl | h
      · exact c
      · exact firstB_none e x h
    · rw [if_neg c] at e
      cases e
def badF (i : Int) (A : Ad) (S : Sto) (X : XD) : Prop := ∀ d, S d = none → X (.ref A.BadGround) (some d) (put S d (.xd [(Str.ofString "part", .int i)]))
def kL (A : Ad) (S : Sto) (d : Dv) : Prop := known A S d ∧ ∀ xs, d = .tup xs → ∀ x ∈ xs, kS A S x
theorem kL.sub {A : Ad} {S T : Sto} {d : Dv} (h : kL A S d) (s : VD.Sub S T) : kL A T d := ⟨h.1.sub s, fun xs e x hx => (h.2 xs e x hx).sub s⟩
/-- what a ground holds -/
def wideD (d : Dv) : Int := match d with
  | .tup xs => 8 * (lenS (xs.getD 0 .non) : Nat)
  | _ => 0
def highD (d : Dv) : Int := match d with
  | .tup xs => 8 * (xs.length : Nat)
  | _ => 0
def gObj (A : Ad) (dx : Addr) (d : Dv) : MO := .ins A.Ground dx (o_Ground d (.int (wideD d)) (.int (highD d)))
def sp_Ground_init (A : Ad) : SpD := fun ds S Q X => ∃ x dx d, ds = [.ref x, d] ∧ S x = some (.ins A.Ground dx []) ∧ kL A S d ∧ match badG d with
  | none => Q .non (put S x (gObj A dx d))
  | some i => badF i A S X
theorem len_Ground_init (A : Ad) : ∀ ds S Q X, sp_Ground_init A ds S Q X → ds.length = 2 := by rintro _ _ _ _ ⟨_, _, _, rfl, _⟩; rfl
def r_Ground_init (A : Ad) : DS := (dSeq (dIfS (dNotT (dTest (dCall (sp_is_sized A) (dCons (dVar 1) (dCons (dC (.int 1)) (dCons (dC (.int 30)) dNil)))))) (dRaiseF (.ref A.BadGround) (Str.ofString "part") (dCons (dNeg (dC (.int 1))) dNil)) dNext)
    (dSeq (dFor (iEnumAD (dCons (dVar 1) dNil)) (gT 2 (gConsD (gN 2) (gConsD (gN 3) gNilD))) (dIfS (dOrT (dNotT (dTest (dCall (sp_is_row A) (dCons (dVar 3) dNil)))) (dTest (dOp rdNe (dCB rdLen (dCons (dVar 3) dNil)) (dCB rdLen (dCons (dOp rdIx (dVar 1) (dC (.int 0))) dNil))))) (dRaiseF (.ref A.BadGround) (Str.ofString "part") (dCons (dVar 2) dNil)) dNext))
    (dSeq (dSetF [A.Ground] (Str.ofString "rows") (dVar 0) (dVar 1))
    (dSeq (dSetF [A.Ground] (Str.ofString "wide") (dVar 0) (dOp rdMul (dC (.int 8)) (dCB rdLen (dCons (dOp rdIx (dVar 1) (dC (.int 0))) dNil))))
    (dSetF [A.Ground] (Str.ofString "high") (dVar 0) (dOp rdMul (dC (.int 8)) (dCB rdLen (dCons (dVar 1) dNil))))))))
theorem rd_Ground_init (A : Ad) : Rd (r_Ground_init A) 4 (sp_Ground_init A) := by
  rintro ds S Q X ⟨x, dx, d, rfl, hx, hk, h⟩
  unfold r_Ground_init
  have no : isSz 1 30 d = false → badF (-1) A S X := fun e => by
    have eb : badG d = some (-1) := by
      cases d with
      | tup xs =>
        unfold badG
        dsimp only
        rw [if_neg]
        intro z
        have : isSz 1 30 (.tup xs) = true := by
          unfold isSz
          simp
          omega
        rw [this] at e
        cases e
      | _ => rfl
    rw [eb] at h
    exact h
  refine cut_seq (fun ρ T => T = S ∧ isSz 1 30 d = true ∧ ρ = [some (.ref x), some d, none, none]) (fun N hN => ?_) (fun ρ T hM => ?_)
  · simp_arith only [and_self]
    refine ⟨d, 1, 30, rfl, hk.1, ?_⟩
    cases e : isSz 1 30 d with
    | true =>
      simp_arith only [and_self]
      rw [if_neg (by decide)]
      exact hN _ _ ⟨rfl, e, rfl⟩
    | false =>
      simp_arith only [and_self]
      exact no e
  obtain ⟨rfl, hz, rfl⟩ := hM
  clear no
  cases d with
  | tup xs =>
    unfold isSz at hz
    simp only [Bool.and_eq_true, decide_eq_true_eq] at hz
    have hz1 : 1 ≤ xs.length := by omega
    have hz2 : xs.length ≤ 30 := by omega
    obtain ⟨x0, hx0⟩ : ∃ y, xs[0]? = some y := ⟨_, List.getElem?_eq_getElem (by omega : 0 < xs.length)⟩
    have eD : xs.getD 0 .non = x0 := by rw [List.getD, hx0]; rfl
    have eb : badG (.tup xs) = firstB xs (lenS x0) 0 := by
      unfold badG
      dsimp only
      rw [if_pos ⟨hz1, hz2⟩, eD]
    rw [eb] at h
    have kx := hk.2 xs rfl
    have at0 : atI xs (0 : Int) = some x0 := by rw [atI_nn (by decide)]; exact hx0
    refine cut_seq (fun ρ U => U = T ∧ (∀ y ∈ xs, goodS (lenS x0) y = true) ∧ firstB xs (lenS x0) 0 = none ∧ ∃ y2 y3, ρ = [some (.ref x), some (.tup xs), y2, y3]) (fun N hN => ?_) (fun ρ U hM => ?_)
    · unfold iEnumAD
      simp_arith only [and_self]
      refine for_go (fun j ρ U => U = T ∧ (0 < j → rowS x0 = true) ∧ firstB xs (lenS x0) 0 = firstB (xs.drop j) (lenS x0) j ∧ ∃ y2 y3, ρ = [some (.ref x), some (.tup xs), y2, y3])
        ⟨rfl, (fun z => absurd z (by decide)), rfl, _, _, rfl⟩ (fun _ _ _ _ _ => trivial) (fun j z ρ U hz hw => ?_) fun ρ U hw => ?_
      · obtain ⟨rfl, h0, hf, y2, y3, rfl⟩ := hw
        obtain ⟨y, hy, rfl⟩ := counted_get hz
        have hj := (List.getElem?_eq_some_iff.mp hy).1
        have hdrop : xs.drop j = y :: xs.drop (j + 1) := by
          rw [List.drop_eq_getElem_cons hj, (List.getElem?_eq_some_iff.mp hy).2]
        rw [hdrop, firstB_cons] at hf
        have ky := kx y (List.mem_of_getElem? hy)
        simp_arith only [and_self]
        refine ⟨y, rfl, ky, ?_⟩
        have bad : goodS (lenS x0) y = false → badF j A U X := fun e => by
          rw [if_neg (by rw [e]; decide)] at hf
          rw [hf] at h
          exact h
        cases er : rowS y with
        | false =>
          simp_arith only [and_self]
          exact bad (by unfold goodS; rw [er]; rfl)
        | true =>
          obtain ⟨z, rfl⟩ : ∃ z, y = .str z := by
            cases y with
            | str z => exact ⟨z, rfl⟩
            | _ => cases er
          have hz0 := ky.2 z rfl
          have r0 : rowS x0 = true := by
            by_cases hj0 : j = 0
            · subst hj0
              rw [hx0] at hy
              cases hy
              exact er
            · exact h0 (by omega)
          obtain ⟨z0, rfl⟩ : ∃ z, x0 = .str z := by
            cases x0 with
            | str z => exact ⟨z, rfl⟩
            | _ => cases r0
          have hz00 := (kx _ (List.mem_of_getElem? hx0)).2 z0 rfl
          simp_arith only [and_self]
          rw [if_neg (by decide)]
          refine ⟨slK (by omega), _, hx0, ?_⟩
          simp_arith only [and_self]
          refine ⟨slK (by omega), ?_⟩
          by_cases el : z.length = z0.length
          · rw [if_neg (by rw [el]; exact fun z => z rfl)]
            have gd : goodS (lenS (Dv.str z0)) (Dv.str z) = true := by
              unfold goodS
              rw [er, Bool.true_and]
              exact decide_eq_true el
            rw [if_pos gd] at hf
            exact ⟨fun _ => r0, hf, _, _, rfl⟩
          · rw [if_pos (by omega)]
            exact bad (by
              unfold goodS
              rw [er, Bool.true_and]
              exact decide_eq_false el)
      · obtain ⟨rfl, h0, hf, y2, y3, rfl⟩ := hw
        rw [counted_len, List.drop_length] at hf
        have hn : firstB xs (lenS x0) 0 = none := by rw [hf]; rfl
        exact hN _ _ ⟨rfl, firstB_none hn, hn, _, _, rfl⟩
    obtain ⟨rfl, hg, hn, y2, y3, rfl⟩ := hM
    rw [hn] at h
    have g0 := hg x0 (List.mem_of_getElem? hx0)
    obtain ⟨z0, rfl⟩ : ∃ z, x0 = .str z := by
      cases x0 with
      | str z => exact ⟨z, rfl⟩
      | _ => cases g0
    have hz00 := (kx _ (List.mem_of_getElem? hx0)).2 z0 rfl
    simp_arith only [hx, n_Ground_rows, n_Ground_wide, n_Ground_high]
    refine ⟨by decide, _, hx0, ?_⟩
    simp_arith only [and_self]
    refine ⟨slK (by omega), ?_⟩
    unfold rdMul
    simp_arith only [n_Ground_rows, n_Ground_wide, n_Ground_high]
    have eg : gObj A dx (.tup xs) = .ins A.Ground dx (o_Ground (.tup xs) (.int (8 * (z0.length : Nat))) (.int (8 * (xs.length : Nat)))) := by
      unfold gObj wideD highD
      dsimp only
      rw [eD]
      rfl
    rw [eg] at h
    exact ⟨mulok_l (by decide) (by decide), by decide, mulok_l (by decide) (by decide), by decide, h⟩
  | _ => cases hz
end Lw

--CLS Ground
namespace Lw
open PySem PySem.Spec PyProof.Rows L2 VD
local macro_rules
  | `(tactic| simp_arith only [$xs,*]) => `(tactic| simp only [dSeq, dAsg, dRet, dRetN, dDrop, dRaise, dBreak, dCont, dPar, dAug, dFor, dNext, dSetF, dAugF, dRaiseF, dIfS, dTest, dOp, dVar, dC, dCB, dCons, dNil, dCall, dAndV, dOrV, dNotV, dAndT, dOrT, dNotT, dIf, dTup, dLst, dLstV, dSl, dSlV, oSome, oNone, dNeg, gN, gT, gConsD, gNilD, gSubD, gFldD, dChain, dLc, dBM, isLst, iSeqD, iR1, iR2, iR3, dYes, isn_non, isn_bl, isn_int, isn_str, isn_ref, isn_tup, isn_rol, isn_obj, rdIx_tup, rdIx_rol, rdIx_put, rdSet, rdLen_tup, rdLen_rol, rdLen_str, rdLen_put, rdAppend, rdExt, rdPopAt, rdIsB, isBlV, rdStrI, rdIntS, dFrz, dFld, insOf_put, dMeth, lstOf_rol, lstOf_put, seqOf_tup, seqOf_rol, seqOf_put, frz_tup, frz_rol, frz_int, frz_bl, frz_non, frz_str, frz_obj, startN, wipeD, List.map_cons, List.map_nil, List.length_cons, List.length_nil, Nat.zero_add, Nat.sub_self, Nat.reduceAdd, Nat.reduceSub, List.replicate_succ, List.replicate_zero, List.cons_append, List.nil_append, List.append_nil, List.getElem?_cons_zero, List.getElem?_cons_succ, List.set_cons_zero, List.set_cons_succ, Option.some.injEq, exists_eq_left', atI_0, atI_1, atI_2, atI_3, atI_4, atI_5, atI_6, atI_7, ixN_50, ixN_51, ixN_52, ixN_53, ixN_54, ixN_30, ixN_31, ixN_32, put_same, put_put, true_and, and_true, decide_true, decide_false, Bool.not_true, Bool.not_false, Bool.false_eq_true, if_true, if_false, decide_eq_true_eq, Bool.not_eq_true', decide_eq_false_iff_not, mem_one, ex_one, and_self, xd_mk, qAdd_i, qAdd_t, qAdd_s, qAdd_l, qMul_i, qMul_t, qMul_l, qSub_i, qDiv_i, qMod_i, qPow_i, qIAdd_i, qEq_i, qEq_b, qEq_s, qCmp_i, qIsN, qSl_t, qSl_l, qSl_s, qInt_i, qInt_b, qInt1, qMax, qMin, qList_t, qList_l, i_Ground, l_Ground, h_Ground_eq, g_Ground_rows, p_Ground_rows, k_Ground_rows, g_Ground_wide, p_Ground_wide, k_Ground_wide, g_Ground_high, p_Ground_high, k_Ground_high, $xs,*])
structure OtOk (A : Ad) : Prop where
  c : A.Ground ∈ A.ot.cs
  s : (A.Ground, A.Ground, true) ∈ A.ot.sub
theorem isi_own {A : Ad} (O : OtOk A) {x dx : Addr} {fs : List (Str × Dv)} {S : Sto} {Q : QD} (e : S x = some (.ins A.Ground dx fs)) (q : Q (.bl true) S) : rdIsi A.ot [.ref x, .ref A.Ground] S Q :=
  ⟨.ref A.Ground, true, by dsimp only [tyD]; rw [e], .oo _ _ _ O.c O.s, q⟩
def sp_Ground (A : Ad) : SpD := fun ds S Q X => ∃ d, ds = [d] ∧ kL A S d ∧ match badG d with
  | none => ∀ x dx, S x = none → Q (.ref x) (put S x (gObj A dx d))
  | some i => ∀ T, VD.Sub S T → badF i A T X
theorem mk_Ground (A : Ad) : ∀ vs S Q X, sp_Ground A vs S Q X → ∀ x dx, S x = none → S dx = none → dx ≠ x → sp_Ground_init A (.ref x :: vs) (put S x (.ins A.Ground dx [])) (fun v S2 => v = .non ∧ Q (.ref x) S2) X := by
  rintro _ S Q X ⟨d, rfl, hk, h⟩ x dx hx hd ne
  refine ⟨x, dx, d, rfl, put_same, hk.sub (Sub.new hx), ?_⟩
  cases eb : badG d with
  | none =>
    rw [eb] at h
    dsimp only
    rw [put_put]
    exact ⟨rfl, h x dx hx⟩
  | some i =>
    rw [eb] at h
    exact h _ (Sub.new hx)
/-! ### right grounds -/
def rowsD (zs : List Str) : Dv := .tup (zs.map Dv.str)
structure OkG (zs : List Str) (n : Nat) : Prop where
  l1 : 1 ≤ zs.length
  l2 : zs.length ≤ 30
  n1 : 1 ≤ n
  n2 : n ≤ 40
  each : ∀ z ∈ zs, z.length = n ∧ z.cps.toList.all isSg = true
theorem goodS_is {n : Nat} {d : Dv} (h : goodS n d = true) : ∃ z, d = .str z ∧ 1 ≤ z.length ∧ z.length ≤ 40 ∧ z.length = n ∧ z.cps.toList.all isSg = true := by
  unfold goodS rowS at h
  cases d with
  | str z =>
    simp only [Bool.and_eq_true, decide_eq_true_eq] at h
    exact ⟨z, rfl, h.1.1.1, h.1.1.2, h.2, h.1.2⟩
  | _ => simp at h
theorem strs_of {xs : List Dv} {n : Nat} (h : ∀ x ∈ xs, goodS n x = true) : ∃ zs : List Str, xs = zs.map Dv.str ∧ ∀ z ∈ zs, z.length = n ∧ z.cps.toList.all isSg = true := by
  induction xs with
  | nil => exact ⟨[], rfl, fun z hz => by cases hz⟩
  | cons x xs ih =>
    obtain ⟨zs, e, hz⟩ := ih fun y hy => h y (by simp [hy])
    obtain ⟨z, rfl, _, _, e2, e3⟩ := goodS_is (h x (by simp))
    exact ⟨z :: zs, by rw [e, List.map_cons], fun y hy => by
      rcases List.mem_cons.mp hy with rfl | hy
      · exact ⟨e2, e3⟩
      · exact hz y hy⟩
theorem badG_none {d : Dv} (h : badG d = none) : ∃ zs n, OkG zs n ∧ d = rowsD zs := by
  unfold badG at h
  cases d with
  | tup xs =>
    dsimp only at h
    by_cases c : 1 ≤ xs.length ∧ xs.length ≤ 30
    · rw [if_pos c] at h
      have g := firstB_none h
      obtain ⟨zs, e, hz⟩ := strs_of g
      have l : xs.length = zs.length := by rw [e, List.length_map]
      obtain ⟨x0, hx0⟩ : ∃ y, xs[0]? = some y := ⟨_, List.getElem?_eq_getElem (by omega : 0 < xs.length)⟩
      obtain ⟨z, ez, h1, h2, h3, h4⟩ := goodS_is (g x0 (List.mem_of_getElem? hx0))
      exact ⟨zs, _, ⟨by omega, by omega, by omega, by omega, hz⟩, by rw [rowsD, e]⟩
    · rw [if_neg c] at h
      cases h
  | _ => cases h
theorem firstB_good {n : Nat} : ∀ {xs : List Dv} {i : Nat}, (∀ x ∈ xs, goodS n x = true) → firstB xs n i = none
  | [], _, _ => by rw [firstB]
  | x :: xs, i, h => by
    rw [firstB_cons, if_pos (h x (by simp))]
    exact firstB_good fun y hy => h y (by simp [hy])
theorem OkG.head {zs : List Str} {n : Nat} (h : OkG zs n) : ∃ z, zs[0]? = some z ∧ z.length = n ∧ (zs.map Dv.str).getD 0 .non = .str z := by
  obtain ⟨z, hz⟩ : ∃ y, zs[0]? = some y := ⟨_, List.getElem?_eq_getElem (by have := h.l1; omega : 0 < zs.length)⟩
  exact ⟨z, hz, (h.each z (List.mem_of_getElem? hz)).1, by rw [List.getD, List.getElem?_map, hz]; rfl⟩
theorem OkG.good {zs : List Str} {n : Nat} (h : OkG zs n) : badG (rowsD zs) = none := by
  obtain ⟨z, hz, e, eD⟩ := h.head
  unfold badG rowsD
  dsimp only
  rw [List.length_map, if_pos ⟨h.l1, h.l2⟩, eD]
  refine firstB_good fun x hx => ?_
  obtain ⟨y, hy, rfl⟩ := List.mem_map.mp hx
  obtain ⟨e1, e2⟩ := h.each y hy
  have := h.n1
  have := h.n2
  unfold goodS rowS lenS
  simp only [Bool.and_eq_true, decide_eq_true_eq]
  exact ⟨⟨⟨by omega, by omega⟩, e2⟩, by omega⟩
theorem OkG.wide {zs : List Str} {n : Nat} (h : OkG zs n) : wideD (rowsD zs) = 8 * (n : Int) ∧ highD (rowsD zs) = 8 * (zs.length : Int) := by
  obtain ⟨z, hz, e, eD⟩ := h.head
  unfold wideD highD rowsD
  dsimp only
  rw [eD, List.length_map]
  exact ⟨by rw [show lenS (.str z) = z.length from rfl, e], rfl⟩
theorem sg_lt {c : Nat} (h : isSg c = true) : c < 128 := by
  have h := of_decide_eq_true h
  simp only [sgL, List.mem_cons, List.not_mem_nil, or_false] at h
  omega
theorem OkG.clean {zs : List Str} {n : Nat} (h : OkG zs n) : clean 2 (rowsD zs) := by
  intro x hx
  obtain ⟨y, hy, rfl⟩ := List.mem_map.mp hx
  show PyData.strOk y = true
  unfold PyData.strOk
  rw [← Array.all_toList]
  have := (h.each y hy).2
  exact List.all_eq_true.mpr fun c hc => decide_eq_true (by have := sg_lt (List.all_eq_true.mp this c hc); omega)
/-- a ground stands at g -/
structure IsG (A : Ad) (S : Sto) (g : Addr) (zs : List Str) (n : Nat) : Prop where
  at_ : ∃ dx, S g = some (.ins A.Ground dx (o_Ground (rowsD zs) (.int (8 * (n : Int))) (.int (8 * (zs.length : Int)))))
  ok : OkG zs n
theorem gObj_ok {A : Ad} {dx : Addr} {zs : List Str} {n : Nat} (h : OkG zs n) : gObj A dx (rowsD zs) = .ins A.Ground dx (o_Ground (rowsD zs) (.int (8 * (n : Int))) (.int (8 * (zs.length : Int)))) := by
  unfold gObj
  rw [h.wide.1, h.wide.2]
theorem IsG.new {A : Ad} {S : Sto} {g dx : Addr} {zs : List Str} {n : Nat} (h : OkG zs n) : IsG A (put S g (gObj A dx (rowsD zs))) g zs n := ⟨⟨dx, by rw [put_same, gObj_ok h]⟩, h⟩
theorem rowsD_inj {zs ys : List Str} (h : rowsD zs = rowsD ys) : zs = ys := by
  have h : zs.map Dv.str = ys.map Dv.str := Dv.tup.inj (show Dv.tup _ = Dv.tup _ from h)
  induction zs generalizing ys with
  | nil => cases ys with
    | nil => rfl
    | cons => cases h
  | cons z zs ih => cases ys with
    | nil => cases h
    | cons y ys =>
      simp only [List.map_cons, List.cons.injEq, Dv.str.injEq] at h
      rw [h.1, ih (by rw [rowsD, rowsD, h.2]) h.2]
def sp_Ground_eq (A : Ad) : SpD := fun ds S Q _ => ∃ x y zs n ys m, ds = [.ref x, .ref y] ∧ IsG A S x zs n ∧ IsG A S y ys m ∧ Q (.bl (decide (zs = ys))) S
theorem len_Ground_eq (A : Ad) : ∀ ds S Q X, sp_Ground_eq A ds S Q X → ds.length = 2 := by rintro _ _ _ _ ⟨_, _, _, _, _, _, rfl, _⟩; rfl
def r_Ground_eq (A : Ad) : DS := (dRet (dAndV (dCB (rdIsi A.ot) (dCons (dVar 1) (dCons (dC (.ref A.Ground)) dNil))) (dOp rdEq (dFld [A.Ground] (Str.ofString "rows") (dVar 0)) (dFld [A.Ground] (Str.ofString "rows") (dVar 1)))))
theorem rd_Ground_eq (A : Ad) (O : OtOk A) : Rd (r_Ground_eq A) 2 (sp_Ground_eq A) := by
  rintro ds S Q X ⟨x, y, zs, n, ys, m, rfl, ⟨⟨dx, hx⟩, ox⟩, ⟨⟨dy, hy⟩, oy⟩, h⟩
  unfold r_Ground_eq
  simp_arith only [and_self]
  refine isi_own O hy ?_
  simp_arith only [insOf_ref hx, insOf_ref hy]
  exact eqG_of (n := 2) rfl rfl ox.clean oy.clean ⟨rowsD_inj, fun e => by rw [e]⟩ h
/-! ### signs -/
def ivl (d : Dv) : Int := match d with
  | .int i => i
  | _ => 0
def chr (zs : List Str) (i j : Nat) : Nat := (zs.getD i Str.empty).cps.toList.getD j 0
/-- the sign of a unit -/
def sgn (zs : List Str) (n : Nat) (x y : Int) : Nat := if (0 ≤ x ∧ x < 8 * n) ∧ 0 ≤ y ∧ y < 8 * zs.length then chr zs (y / 8).toNat (x / 8).toNat else 35
def one (c : Nat) : Dv := .str ⟨#[c]⟩
theorem OkG.row {zs : List Str} {n i : Nat} (h : OkG zs n) (hi : i < zs.length) : ∃ z, zs[i]? = some z ∧ z.length = n ∧ z.length ≤ sizeLine ∧ ∀ j, j < n → z.cps.toList[j]? = some (chr zs i j) := by
  refine ⟨zs[i], List.getElem?_eq_getElem hi, (h.each _ (List.getElem_mem hi)).1, ?_, fun j hj => ?_⟩
  · have := (h.each _ (List.getElem_mem hi)).1
    have := h.n2
    exact slK (by omega)
  · have e := (h.each _ (List.getElem_mem hi)).1
    rw [len_cps] at e
    unfold chr
    have e1 : zs.getD i Str.empty = zs[i] := by rw [List.getD, List.getElem?_eq_getElem hi, Option.getD_some]
    rw [e1, List.getD, List.getElem?_eq_getElem (by omega : j < zs[i].cps.toList.length)]
    rfl
/-- the item of a text in a row of texts -/
theorem ix_row {zs : List Str} {n i : Nat} {k : Int} (h : OkG zs n) (hi : i < zs.length) (k0 : 0 ≤ k) (k1 : k < n) {S : Sto} {Q : QD} (q : Q (one (chr zs i k.toNat)) S) : ∃ d, atI (zs.map Dv.str) (i : Int) = some d ∧ rdIx d (.int k) S Q := by
  obtain ⟨z, hz, _, e2, e3⟩ := h.row hi
  refine ⟨.str z, by rw [atI_nn (by omega), Int.toNat_natCast, List.getElem?_map, hz]; rfl, ?_⟩
  exact ⟨e2, _, by rw [atI_nn k0]; exact e3 k.toNat (by omega), q⟩
def sp_sign_of (A : Ad) : SpD := fun ds S Q _ => ∃ g x y zs n, ds = [.ref g, .int x, .int y] ∧ IsG A S g zs n ∧ Q (one (sgn zs n x y)) S
theorem len_sign_of (A : Ad) : ∀ ds S Q X, sp_sign_of A ds S Q X → ds.length = 3 := by rintro _ _ _ _ ⟨_, _, _, _, _, rfl, _⟩; rfl
def r_sign_of (A : Ad) : DS := (dSeq (dIfS (dAndT (dTest (dChain rdLe rdLt (dC (.int 0)) (dVar 1) (dFld [A.Ground] (Str.ofString "wide") (dVar 0)))) (dTest (dChain rdLe rdLt (dC (.int 0)) (dVar 2) (dFld [A.Ground] (Str.ofString "high") (dVar 0))))) (dRet (dOp rdIx (dOp rdIx (dFld [A.Ground] (Str.ofString "rows") (dVar 0)) (dOp rdDiv (dVar 2) (dC (.int 8)))) (dOp rdDiv (dVar 1) (dC (.int 8))))) dNext)
    (dRet (dC (.str (Str.ofString "#")))))
theorem rd_sign_of (A : Ad) : Rd (r_sign_of A) 3 (sp_sign_of A) := by
  rintro ds S Q X ⟨g, x, y, zs, n, rfl, ⟨⟨dx, hg⟩, ok⟩, h⟩
  unfold r_sign_of
  simp_arith only [insOf_ref hg]
  have no : ¬ ((0 ≤ x ∧ x < 8 * (n : Int)) ∧ 0 ≤ y ∧ y < 8 * (zs.length : Int)) → Q (.str (Str.ofString "#")) S := fun c => by
    unfold sgn at h
    rw [if_neg c, one, ← str1] at h
    exact h
  by_cases x0 : 0 ≤ x
  · rw [decide_eq_true x0]
    dsimp only
    by_cases x1 : x < 8 * (n : Int)
    · rw [if_pos x1]
      by_cases y0 : 0 ≤ y
      · rw [decide_eq_true y0]
        dsimp only
        by_cases y1 : y < 8 * (zs.length : Int)
        · rw [if_pos y1]
          unfold sgn at h
          rw [if_pos ⟨⟨x0, x1⟩, y0, y1⟩] at h
          have e := ix_row ok (i := (y / 8).toNat) (k := x / 8) (by omega) (by omega) (by omega) h
          rw [show (((y / 8).toNat : Nat) : Int) = y / 8 by omega] at e
          obtain ⟨d, e1, e2⟩ := e
          exact ⟨divp 64 (by decide) (by decide), d, e1, divp 64 (by decide) (by decide), e2⟩
        · rw [if_neg y1]
          exact no (by omega)
      · rw [decide_eq_false y0]
        exact no (by omega)
    · rw [if_neg x1]
      exact no (by omega)
  · rw [decide_eq_false x0]
    exact no (by omega)
def sp_sign_at (A : Ad) : SpD := fun ds S Q X => ∃ g x y zs n, ds = [.ref g, x, y] ∧ IsG A S g zs n ∧ known A S x ∧ known A S y ∧ if (isInt x && isInt y) = true then Q (one (sgn zs n (ivl x) (ivl y))) S else X (.ref A.NoNumber) none S
theorem len_sign_at (A : Ad) : ∀ ds S Q X, sp_sign_at A ds S Q X → ds.length = 3 := by rintro _ _ _ _ ⟨_, _, _, _, _, rfl, _⟩; rfl
def r_sign_at (A : Ad) : DS := (dSeq (dDrop (dCall (sp_check_integers A) (dCons (dTup (dCons (dVar 1) (dCons (dVar 2) dNil))) dNil)))
    (dRet (dCall (sp_sign_of A) (dCons (dVar 0) (dCons (dVar 1) (dCons (dVar 2) dNil))))))
theorem rd_sign_at (A : Ad) : Rd (r_sign_at A) 3 (sp_sign_at A) := by
  rintro ds S Q X ⟨g, x, y, zs, n, rfl, hg, kx, ky, h⟩
  unfold r_sign_at
  simp_arith only [and_self]
  refine ⟨slK, x, y, rfl, kx, ky, ?_⟩
  cases e : (isInt x && isInt y) with
  | false => rw [e] at h; exact h
  | true =>
    rw [e, if_pos rfl] at h
    rw [if_pos rfl]
    rw [Bool.and_eq_true] at e
    obtain ⟨i, rfl⟩ : ∃ i, x = .int i := by
      cases x <;> first | exact ⟨_, rfl⟩ | cases e.1
    obtain ⟨j, rfl⟩ : ∃ i, y = .int i := by
      cases y <;> first | exact ⟨_, rfl⟩ | cases e.2
    exact ⟨g, i, j, zs, n, rfl, hg, h⟩
/-! ### stretches -/
def sp_spanned (A : Ad) : SpD := fun ds S Q _ => ∃ b l, ds = [.int b, .int l] ∧ 0 ≤ b ∧ b ≤ 10000 ∧ 1 ≤ l ∧ l ≤ 32 ∧ Q (.rol ((rgI (b / 8) ((b + l - 1) / 8 + 1)).map Dv.int)) S
theorem len_spanned (A : Ad) : ∀ ds S Q X, sp_spanned A ds S Q X → ds.length = 2 := by rintro _ _ _ _ ⟨_, _, rfl, _⟩; rfl
def r_spanned (A : Ad) : DS := (dRet (dListRg2 (dOp rdDiv (dVar 0) (dC (.int 8))) (dOp rdAddV (dOp rdDiv (dOp rdSub (dOp rdAddV (dVar 0) (dVar 1)) (dC (.int 1))) (dC (.int 8))) (dC (.int 1)))))
theorem rd_spanned (A : Ad) : Rd (r_spanned A) 2 (sp_spanned A) := by
  rintro ds S Q X ⟨b, l, rfl, b0, b1, l1, l2, h⟩
  unfold r_spanned dListRg2
  simp_arith only [and_self]
  exact ⟨divp 64 (by decide) (by decide), divp 64 (by decide) (by decide), ⟨by omega, by omega, by omega, by omega, by omega⟩, h⟩
def Free (zs : List Str) (n : Nat) (x y w h : Int) : Prop := ∀ i j : Int, 0 ≤ i → i < w → 0 ≤ j → j < h → sgn zs n (x + i) (y + j) ≠ 35
theorem one_eq {c : Nat} : decide (({ cps := #[c] } : Str) = Str.ofString "#") = decide (c = 35) := by
  rw [str1]
  exact decide_eq_decide.mpr ⟨fun e => by cases e; rfl, fun e => by rw [e]⟩
theorem rgI_len {i j : Int} : (rgI i j).length = (j - i).toNat := by unfold rgI; rw [List.length_map, List.length_range]
theorem rgI_get {i j : Int} {k : Nat} {v : Int} (h : (rgI i j)[k]? = some v) : v = i + k ∧ v < j := by
  have h0 := (List.getElem?_eq_some_iff.mp h).1
  rw [rgI_len] at h0
  unfold rgI at h
  rw [List.getElem?_map, List.getElem?_range (by omega)] at h
  have h : i + (k : Int) = v := Option.some.inj h
  exact ⟨h.symm, by omega⟩
theorem rgI_mem {i j v : Int} : v ∈ rgI i j ↔ i ≤ v ∧ v < j := by
  unfold rgI
  rw [List.mem_map]
  constructor
  · rintro ⟨k, hk, rfl⟩
    rw [List.mem_range] at hk
    omega
  · rintro ⟨h1, h2⟩
    exact ⟨(v - i).toNat, by rw [List.mem_range]; omega, by omega⟩
theorem sgn_in {zs : List Str} {n : Nat} {x y : Int} (x0 : 0 ≤ x) (x1 : x < 8 * n) (y0 : 0 ≤ y) (y1 : y < 8 * zs.length) : sgn zs n x y = chr zs (y / 8).toNat (x / 8).toNat := by
  unfold sgn
  rw [if_pos ⟨⟨x0, x1⟩, y0, y1⟩]
theorem sgn_out {zs : List Str} {n : Nat} {x y : Int} (h : ¬ ((0 ≤ x ∧ x < 8 * (n : Int)) ∧ 0 ≤ y ∧ y < 8 * (zs.length : Int))) : sgn zs n x y = 35 := by
  unfold sgn
  rw [if_neg h]
def sp_opens (A : Ad) : SpD := fun ds S Q _ => ∃ g x y w h zs n, ds = [.ref g, .int x, .int y, .int w, .int h] ∧ IsG A S g zs n ∧ 1 ≤ w ∧ w ≤ 32 ∧ 1 ≤ h ∧ h ≤ 32 ∧ ∀ b : Bool, (b = true ↔ Free zs n x y w h) → Q (.bl b) S
theorem len_opens (A : Ad) : ∀ ds S Q X, sp_opens A ds S Q X → ds.length = 5 := by rintro _ _ _ _ ⟨_, _, _, _, _, _, _, rfl, _⟩; rfl
def r_opens (A : Ad) : DS := (dSeq (dIfS (dOrT (dTest (dOp rdLt (dVar 1) (dC (.int 0)))) (dOrT (dTest (dOp rdLt (dVar 2) (dC (.int 0)))) (dOrT (dTest (dOp rdGt (dOp rdAddV (dVar 1) (dVar 3)) (dFld [A.Ground] (Str.ofString "wide") (dVar 0)))) (dTest (dOp rdGt (dOp rdAddV (dVar 2) (dVar 4)) (dFld [A.Ground] (Str.ofString "high") (dVar 0))))))) (dRet (dC (.bl false))) dNext)
    (dSeq (dFor (iSeqD (dCall (sp_spanned A) (dCons (dVar 2) (dCons (dVar 4) dNil)))) (gN 5) (dIfS (dTest (dCB rdAny (dCons (dFrz (dLc (iSeqD (dCall (sp_spanned A) (dCons (dVar 1) (dCons (dVar 3) dNil)))) (gN 6) dYes (dOp rdEq (dOp rdIx (dOp rdIx (dFld [A.Ground] (Str.ofString "rows") (dVar 0)) (dVar 5)) (dVar 6)) (dC (.str (Str.ofString "#")))) [6])) dNil))) (dRet (dC (.bl false))) dNext))
    (dRet (dC (.bl true)))))
theorem rd_opens (A : Ad) : Rd (r_opens A) 7 (sp_opens A) := by
  rintro ds S Q X ⟨g, x, y, w, h, zs, n, rfl, hG, w1, w2, h1, h2, q⟩
  obtain ⟨⟨dx, hg⟩, ok⟩ := id hG
  have ln := ok.n2
  have ll := ok.l2
  unfold r_opens
  have no : ∀ i j : Int, 0 ≤ i → i < w → 0 ≤ j → j < h → sgn zs n (x + i) (y + j) = 35 → Q (.bl false) S := fun i j i0 i1 j0 j1 e => q false ⟨(fun z => by cases z), fun z => absurd e (z i j i0 i1 j0 j1)⟩
  refine cut_seq (fun ρ T => T = S ∧ (0 ≤ x ∧ 0 ≤ y ∧ x + w ≤ 8 * (n : Int) ∧ y + h ≤ 8 * (zs.length : Int)) ∧ ρ = [some (.ref g), some (.int x), some (.int y), some (.int w), some (.int h), none, none]) (fun N hN => ?_) (fun ρ T hM => ?_)
  · simp_arith only [insOf_ref hg]
    by_cases x0 : x < 0
    · rw [if_pos x0]
      exact no 0 0 (by omega) (by omega) (by omega) (by omega) (sgn_out (by omega))
    · rw [if_neg x0]
      by_cases y0 : y < 0
      · rw [if_pos y0]
        exact no 0 0 (by omega) (by omega) (by omega) (by omega) (sgn_out (by omega))
      · rw [if_neg y0]
        by_cases x1 : 8 * (n : Int) < x + w
        · rw [if_pos x1]
          exact no (w - 1) 0 (by omega) (by omega) (by omega) (by omega) (sgn_out (by omega))
        · rw [if_neg x1]
          by_cases y1 : 8 * (zs.length : Int) < y + h
          · rw [if_pos y1]
            exact no 0 (h - 1) (by omega) (by omega) (by omega) (by omega) (sgn_out (by omega))
          · rw [if_neg y1]
            exact hN _ _ ⟨rfl, ⟨by omega, by omega, by omega, by omega⟩, rfl⟩
  obtain ⟨rfl, ⟨x0, y0, x1, y1⟩, rfl⟩ := hM
  simp_arith only [and_self]
  refine ⟨y, h, rfl, y0, by omega, h1, h2, ?_⟩
  refine for_go (fun k ρ U => U = T ∧ (∀ r ∈ (rgI (y / 8) ((y + h - 1) / 8 + 1)).take k, ∀ c ∈ rgI (x / 8) ((x + w - 1) / 8 + 1), chr zs r.toNat c.toNat ≠ 35) ∧ ∃ y5, ρ = [some (.ref g), some (.int x), some (.int y), some (.int w), some (.int h), y5, none])
    ⟨rfl, (fun r hr => by cases hr), _, rfl⟩ (fun _ _ _ _ _ => trivial) (fun k z ρ U hz hw => ?_) fun ρ U hw => ?_
  · obtain ⟨rfl, hall, y5, rfl⟩ := hw
    obtain ⟨r, hr, rfl⟩ := map_get hz
    obtain ⟨r1, r2⟩ := rgI_get hr
    simp_arith only [and_self]
    refine ⟨x, w, rfl, x0, by omega, w1, w2, ?_⟩
    refine lcV_pure (fun d => .bl (decide (chr zs r.toNat (ivl d).toNat = 35))) (by rw [List.length_map, rgI_len]; exact slK (by omega)) (fun _ _ _ => trivial) (fun d hd T2 Kq hs hq => ?_) ?_
    · obtain ⟨c, hc, rfl⟩ := List.mem_map.mp hd
      rw [rgI_mem] at hc
      simp_arith only [insOf_ref (hs _ _ hg)]
      have e := ix_row ok (i := r.toNat) (k := c) (by omega) (by omega) (by omega) (S := T2) (Q := fun d S1 => rdEq d (.str (Str.ofString "#")) S1 Kq) (by
        show Kq (.bl (decide _)) T2
        rw [one_eq]
        exact hq)
      rw [show ((r.toNat : Nat) : Int) = r by omega] at e
      exact e
    · rw [show ((rgI (x / 8) ((x + w - 1) / 8 + 1)).map Dv.int).map (fun d => Dv.bl (decide (chr zs r.toNat (ivl d).toNat = 35))) = ((rgI (x / 8) ((x + w - 1) / 8 + 1)).map fun c => decide (chr zs r.toNat c.toNat = 35)).map Dv.bl by rw [List.map_map, List.map_map]; rfl]
      refine any_rol ?_
      rw [List.any_map, Function.id_comp]
      cases ea : (rgI (x / 8) ((x + w - 1) / 8 + 1)).any fun c => decide (chr zs r.toNat c.toNat = 35) with
      | true =>
        simp_arith only [and_self]
        obtain ⟨c, hc, e35⟩ := List.any_eq_true.mp ea
        rw [rgI_mem] at hc
        have e35 := of_decide_eq_true e35
        obtain ⟨i, i0, i1, ei⟩ : ∃ i, 0 ≤ i ∧ i < w ∧ (x + i) / 8 = c := by
          by_cases cx : 8 * c ≤ x
          · exact ⟨0, by omega, by omega, by omega⟩
          · exact ⟨8 * c - x, by omega, by omega, by omega⟩
        obtain ⟨j, j0, j1, ej⟩ : ∃ j, 0 ≤ j ∧ j < h ∧ (y + j) / 8 = r := by
          by_cases cy : 8 * r ≤ y
          · exact ⟨0, by omega, by omega, by omega⟩
          · exact ⟨8 * r - y, by omega, by omega, by omega⟩
        exact no i j i0 i1 j0 j1 (by rw [sgn_in (by omega) (by omega) (by omega) (by omega), ei, ej]; exact e35)
      | false =>
        simp_arith only [and_self]
        refine ⟨fun r' hr' c hc e35 => ?_, _, rfl⟩
        rw [List.take_succ, hr] at hr'
        rcases List.mem_append.mp hr' with hr' | hr'
        · exact hall r' hr' c hc e35
        · rw [List.mem_singleton.mp hr'] at e35
          have := List.any_eq_false.mp ea c hc
          exact this (decide_eq_true e35)
  · obtain ⟨rfl, hall, y5, rfl⟩ := hw
    rw [List.length_map, List.take_length] at hall
    simp_arith only [and_self]
    refine q true ⟨fun _ i j i0 i1 j0 j1 e35 => ?_, fun _ => rfl⟩
    rw [sgn_in (by omega) (by omega) (by omega) (by omega)] at e35
    exact hall _ (rgI_mem.mpr ⟨by omega, by omega⟩) _ (rgI_mem.mpr ⟨by omega, by omega⟩) e35
def sp_is_open (A : Ad) : SpD := fun ds S Q X => ∃ g x y w h zs n, ds = [.ref g, x, y, w, h] ∧ IsG A S g zs n ∧ known A S x ∧ known A S y ∧ known A S w ∧ known A S h ∧
  if (isInt x && isInt y) = true then (if (within w 1 32 && within h 1 32) = true then ∀ b : Bool, (b = true ↔ Free zs n (ivl x) (ivl y) (ivl w) (ivl h)) → Q (.bl b) S else X (.ref A.NoNumber) none S) else X (.ref A.NoNumber) none S
theorem len_is_open (A : Ad) : ∀ ds S Q X, sp_is_open A ds S Q X → ds.length = 5 := by rintro _ _ _ _ ⟨_, _, _, _, _, _, _, rfl, _⟩; rfl
def r_is_open (A : Ad) : DS := (dSeq (dDrop (dCall (sp_check_integers A) (dCons (dTup (dCons (dVar 1) (dCons (dVar 2) dNil))) dNil)))
    (dSeq (dDrop (dCall (sp_check_within A) (dCons (dVar 3) (dCons (dC (.int 1)) (dCons (dC (.int 32)) dNil)))))
    (dSeq (dDrop (dCall (sp_check_within A) (dCons (dVar 4) (dCons (dC (.int 1)) (dCons (dC (.int 32)) dNil)))))
    (dRet (dCall (sp_opens A) (dCons (dVar 0) (dCons (dVar 1) (dCons (dVar 2) (dCons (dVar 3) (dCons (dVar 4) dNil))))))))))
theorem rd_is_open (A : Ad) : Rd (r_is_open A) 5 (sp_is_open A) := by
  rintro ds S Q X ⟨g, x, y, w, h, zs, n, rfl, hG, kx, ky, kw, kh, q⟩
  unfold r_is_open
  simp_arith only [and_self]
  refine ⟨slK, x, y, rfl, kx, ky, ?_⟩
  cases e : (isInt x && isInt y) with
  | false => rw [e] at q; exact q
  | true =>
    rw [e, if_pos rfl] at q
    rw [if_pos rfl]
    rw [Bool.and_eq_true] at e
    obtain ⟨i, rfl⟩ : ∃ i, x = .int i := by
      cases x <;> first | exact ⟨_, rfl⟩ | cases e.1
    obtain ⟨j, rfl⟩ : ∃ i, y = .int i := by
      cases y <;> first | exact ⟨_, rfl⟩ | cases e.2
    refine ⟨w, 1, 32, rfl, kw, ?_⟩
    cases ew : within w 1 32 with
    | false => rw [ew, Bool.false_and, if_neg (by decide)] at q; rw [if_neg (by decide)]; exact q
    | true =>
      rw [ew, Bool.true_and] at q
      rw [if_pos rfl]
      refine ⟨h, 1, 32, rfl, kh, ?_⟩
      cases eh : within h 1 32 with
      | false => rw [eh, if_neg (by decide)] at q; rw [if_neg (by decide)]; exact q
      | true =>
        rw [eh, if_pos rfl] at q
        rw [if_pos rfl]
        obtain ⟨w, rfl, w1, w2⟩ := within_i.mp ew
        obtain ⟨h, rfl, h1, h2⟩ := within_i.mp eh
        exact ⟨g, i, j, w, h, zs, n, rfl, hG, w1, w2, h1, h2, q⟩
end Lw

--CLS Ground
namespace Lw
open PySem PySem.Spec PyProof.Rows L2 VD
local macro_rules
  | `(tactic| simp_arith only [$xs,*]) => `(tactic| simp only [dSeq, dAsg, dRet, dRetN, dDrop, dRaise, dBreak, dCont, dPar, dAug, dFor, dNext, dSetF, dAugF, dRaiseF, dIfS, dTest, dOp, dVar, dC, dCB, dCons, dNil, dCall, dAndV, dOrV, dNotV, dAndT, dOrT, dNotT, dIf, dTup, dLst, dLstV, dSl, dSlV, oSome, oNone, dNeg, gN, gT, gConsD, gNilD, gSubD, gFldD, dChain, dLc, dBM, isLst, iSeqD, iR1, iR2, iR3, dYes, isn_non, isn_bl, isn_int, isn_str, isn_ref, isn_tup, isn_rol, isn_obj, rdIx_tup, rdIx_rol, rdIx_put, rdSet, rdLen_tup, rdLen_rol, rdLen_str, rdLen_put, rdAppend, rdExt, rdPopAt, rdIsB, isBlV, rdStrI, rdIntS, dFrz, dFld, insOf_put, dMeth, lstOf_rol, lstOf_put, seqOf_tup, seqOf_rol, seqOf_put, frz_tup, frz_rol, frz_int, frz_bl, frz_non, frz_str, frz_obj, startN, wipeD, List.map_cons, List.map_nil, List.length_cons, List.length_nil, Nat.zero_add, Nat.sub_self, Nat.reduceAdd, Nat.reduceSub, List.replicate_succ, List.replicate_zero, List.cons_append, List.nil_append, List.append_nil, List.getElem?_cons_zero, List.getElem?_cons_succ, List.set_cons_zero, List.set_cons_succ, Option.some.injEq, exists_eq_left', atI_0, atI_1, atI_2, atI_3, atI_4, atI_5, atI_6, atI_7, ixN_50, ixN_51, ixN_52, ixN_53, ixN_54, ixN_30, ixN_31, ixN_32, put_same, put_put, true_and, and_true, decide_true, decide_false, Bool.not_true, Bool.not_false, Bool.false_eq_true, if_true, if_false, decide_eq_true_eq, Bool.not_eq_true', decide_eq_false_iff_not, mem_one, ex_one, and_self, xd_mk, qAdd_i, qAdd_t, qAdd_s, qAdd_l, qMul_i, qMul_t, qMul_l, qSub_i, qDiv_i, qMod_i, qPow_i, qIAdd_i, qEq_i, qEq_b, qEq_s, qCmp_i, qIsN, qSl_t, qSl_l, qSl_s, qInt_i, qInt_b, qInt1, qMax, qMin, qList_t, qList_l, i_Ground, l_Ground, h_Ground_eq, g_Ground_rows, p_Ground_rows, k_Ground_rows, g_Ground_wide, p_Ground_wide, k_Ground_wide, g_Ground_high, p_Ground_high, k_Ground_high, $xs,*])
/-! ### the hand, and what stands beside it -/
def Gr (a : Addr) (S T : Sto) : Prop := ∀ b m, b ≠ a → S b = some m → T b = some m
theorem Gr.refl {a : Addr} {S : Sto} : Gr a S S := fun _ _ _ h => h
theorem Gr.trans {a : Addr} {S T U : Sto} (h : Gr a S T) (k : Gr a T U) : Gr a S U := fun b m n e => k b m n (h b m n e)
theorem Gr.of_sub {a : Addr} {S T : Sto} (s : VD.Sub S T) : Gr a S T := fun b m _ e => s b m e
theorem IsH.gr {a : Addr} {B S T : Sto} (h : IsH a S T) : Gr a S T := fun b m n e => by rw [h.at_ n]; exact e
theorem tk {A : Ad} {a : Addr} {S : Sto} {m : Int} {Q : QD} {X : XD} (hH : IsH a S S) (q : ∀ r T, IsH a T T → Gr a S T → 0 ≤ r → r < m → Q (.int r) T) (hm : 0 < m := by decide) (hm2 : m < 2 ^ 64 := by decide) : sp__law_take A [.ref a, .int m] S Q X :=
  ask hH (fun r T h h0 h1 => q r T h.self (IsH.gr (B := S) h) h0 h1) hm hm2
/-- known, and not the hand -/
structure Kn (A : Ad) (a : Addr) (T : Sto) (d : Dv) : Prop where
  k : known A T d
  n : d ≠ .ref a
  l : ∀ z, d = .str z → z.length ≤ 2000
theorem Kn.s {A : Ad} {a : Addr} {T : Sto} {d : Dv} (h : Kn A a T d) : kS A T d := ⟨h.k, h.l⟩
theorem Kn.mv {A : Ad} {a : Addr} {S T : Sto} {d : Dv} (h : Kn A a S d) (g : Gr a S T) : Kn A a T d := by
  refine ⟨?_, h.n, h.l⟩
  obtain ⟨t, h1, h2⟩ := h.k
  refine ⟨t, ?_, h2⟩
  cases d with
  | ref b =>
    dsimp only [tyD] at h1 ⊢
    cases e : S b with
    | none => rw [e] at h1; cases h1
    | some m =>
      rw [g b m (fun z => h.n (by rw [z])) e]
      rw [e] at h1
      exact h1
  | _ => exact h1
structure Odd (A : Ad) (a : Addr) (T : Sto) (d : Dv) : Prop where
  k : Kn A a T d
  t : ∀ xs, d = .tup xs → ∀ x ∈ xs, Kn A a T x
theorem Odd.mv {A : Ad} {a : Addr} {S T : Sto} {d : Dv} (h : Odd A a S d) (g : Gr a S T) : Odd A a T d := ⟨h.k.mv g, fun xs e x hx => (h.t xs e x hx).mv g⟩
theorem Odd.l {A : Ad} {a : Addr} {T : Sto} {d : Dv} (h : Odd A a T d) : kL A T d := ⟨h.k.k, fun xs e x hx => (h.t xs e x hx).s⟩
theorem kn_p {A : Ad} {a : Addr} {T : Sto} {d : Dv} (h : isPl d = true) (hl : ∀ z, d = .str z → z.length ≤ 2000) : Kn A a T d := ⟨kn_pl h, (fun e => by rw [e] at h; cases h), hl⟩
def plI : Dv → Bool
  | .non | .bl _ | .int _ | .tup _ | .rol _ => true
  | .str z => decide (z.length ≤ 2000)
  | _ => false
def plO (d : Dv) : Bool := match d with
  | .tup xs => xs.all plI
  | .rod _ _ => true
  | d => plI d
theorem kn_i {A : Ad} {a : Addr} {T : Sto} {d : Dv} (h : plI d = true) : Kn A a T d := by
  cases d with
  | str z => exact kn_p rfl fun y e => by cases e; exact of_decide_eq_true h
  | _ => first | (cases h; done) | exact kn_p rfl fun y e => by cases e
theorem odd_p {A : Ad} {a : Addr} {T : Sto} {d : Dv} (h : plO d = true) : Odd A a T d := by
  cases d with
  | tup xs => exact ⟨kn_p rfl fun z e => (by cases e), fun ys e x hx => by cases e; exact kn_i (List.all_eq_true.mp h x hx)⟩
  | rod ks xs => exact ⟨kn_p rfl fun z e => (by cases e), fun ys e => by cases e⟩
  | _ => first
    | (cases h; done)
    | exact ⟨kn_i h, fun ys e => by cases e⟩
theorem kn_dict {A : Ad} {a b : Addr} {T : Sto} {kvs : List (Key × Dv)} (e : T b = some (.dK kvs)) (n : b ≠ a) : Odd A a T (.ref b) :=
  ⟨⟨⟨.type "dict", by show (match T b with | some (.lst _) => some (Value.type "list") | some (.dK _) => some (Value.type "dict") | some (.ins C _ _) => some (.ref C) | _ => none) = _; rw [e], fun C h => by cases h⟩, (fun z => n (by cases z; rfl)), fun z e => by cases e⟩, fun xs e => by cases e⟩
def sp__law_great (A : Ad) : SpD := fun ds S Q _ => ∃ a, ds = [.ref a] ∧ IsH a S S ∧ ∀ r T, IsH a T T → Gr a S T → Q (.int r) T
theorem len__law_great (A : Ad) : ∀ ds S Q X, sp__law_great A ds S Q X → ds.length = 1 := by rintro _ _ _ _ ⟨_, rfl, _⟩; rfl
def r__law_great (A : Ad) : DS := (dRet (dOp rdAddV (dOp rdMulV (dOp rdAddV (dOp rdMulV (dCall (sp__law_take A) (dCons (dVar 0) (dCons (dOp rdPow (dC (.int 10)) (dC (.int 5))) dNil))) (dOp rdPow (dC (.int 10)) (dC (.int 5)))) (dCall (sp__law_take A) (dCons (dVar 0) (dCons (dOp rdPow (dC (.int 10)) (dC (.int 5))) dNil)))) (dOp rdPow (dC (.int 10)) (dC (.int 10)))) (dOp rdAddV (dOp rdMulV (dCall (sp__law_take A) (dCons (dVar 0) (dCons (dOp rdPow (dC (.int 10)) (dC (.int 5))) dNil))) (dOp rdPow (dC (.int 10)) (dC (.int 5)))) (dCall (sp__law_take A) (dCons (dVar 0) (dCons (dOp rdPow (dC (.int 10)) (dC (.int 5))) dNil))))))
theorem rd__law_great (A : Ad) : Rd (r__law_great A) 1 (sp__law_great A) := by
  rintro ds S Q X ⟨a, rfl, hH, h⟩
  unfold r__law_great
  simp_arith only [and_self]
  refine ⟨⟨by decide, by decide, by decide⟩, ?_⟩
  (refine tk hH (fun r1 T1 h1 g1 a1 b1 => ?_) (by first | decide | omega) (by first | decide | omega); try simp_arith only [and_self])
  refine ⟨⟨by decide, by decide, by decide⟩, mulok_r (by decide) (by decide), ⟨by decide, by decide, by decide⟩, ?_⟩
  (refine tk h1 (fun r2 T2 h2 g2 a2 b2 => ?_) (by first | decide | omega) (by first | decide | omega); try simp_arith only [and_self])
  refine ⟨⟨by decide, by decide, by decide⟩, mulok_r (by decide) (by decide), ⟨by decide, by decide, by decide⟩, ?_⟩
  (refine tk h2 (fun r3 T3 h3 g3 a3 b3 => ?_) (by first | decide | omega) (by first | decide | omega); try simp_arith only [and_self])
  refine ⟨⟨by decide, by decide, by decide⟩, mulok_r (by decide) (by decide), ⟨by decide, by decide, by decide⟩, ?_⟩
  (refine tk h3 (fun r4 T4 h4 g4 a4 b4 => ?_) (by first | decide | omega) (by first | decide | omega); try simp_arith only [and_self])
  exact h _ _ h4 (((g1.trans g2).trans g3).trans g4)
def sp__law_is_integer (A : Ad) : SpD := fun ds S Q _ => ∃ d, ds = [d] ∧ known A S d ∧ Q (.bl (isInt d)) S
theorem len__law_is_integer (A : Ad) : ∀ ds S Q X, sp__law_is_integer A ds S Q X → ds.length = 1 := by rintro _ _ _ _ ⟨_, rfl, _⟩; rfl
def r__law_is_integer (A : Ad) : DS := (dRet (dAndV (dCB (rdIsi A.ot) (dCons (dVar 0) (dCons (dC (.ty "int")) dNil))) (dNotV (dCB (rdIsi A.ot) (dCons (dVar 0) (dCons (dC (.ty "bool")) dNil))))))
theorem rd__law_is_integer (A : Ad) : Rd (r__law_is_integer A) 1 (sp__law_is_integer A) := rd_is_integer A
def sp__law_is_within (A : Ad) : SpD := fun ds S Q _ => ∃ d a b, ds = [d, .int a, .int b] ∧ known A S d ∧ Q (.bl (within d a b)) S
theorem len__law_is_within (A : Ad) : ∀ ds S Q X, sp__law_is_within A ds S Q X → ds.length = 3 := by rintro _ _ _ _ ⟨_, _, _, rfl, _⟩; rfl
def r__law_is_within (A : Ad) : DS := (dRet (dAndV (dCall (sp__law_is_integer A) (dCons (dVar 0) dNil)) (dAndV (dOp rdLe (dVar 1) (dVar 0)) (dOp rdLe (dVar 0) (dVar 2)))))
theorem rd__law_is_within (A : Ad) : Rd (r__law_is_within A) 3 (sp__law_is_within A) := by
  rintro ds S Q X ⟨d, a, b, rfl, hk, h⟩
  unfold r__law_is_within
  simp_arith only [and_self]
  refine ⟨d, rfl, hk, ?_⟩
  cases d with
  | int i =>
    have h : Q (.bl (decide (a ≤ i) && decide (i ≤ b))) S := h
    unfold isInt
    simp_arith only [and_self]
    by_cases h1 : a ≤ i
    · simp only [h1, decide_true, Bool.true_and] at h ⊢
      exact h
    · simp only [h1, decide_false, Bool.false_and] at h ⊢
      exact h
  | _ => exact h
def sp__law_odd (A : Ad) : SpD := fun ds S Q _ => ∃ a, ds = [.ref a] ∧ IsH a S S ∧ ∀ d T, IsH a T T → Gr a S T → Odd A a T d → Q d T
theorem len__law_odd (A : Ad) : ∀ ds S Q X, sp__law_odd A ds S Q X → ds.length = 1 := by rintro _ _ _ _ ⟨_, rfl, _⟩; rfl
def r__law_odd (A : Ad) : DS := (dSeq (dAsg (dCall (sp__law_take A) (dCons (dVar 0) (dCons (dC (.int 20)) dNil))) (gN 1))
    (dSeq (dIfS (dTest (dOp rdLt (dVar 1) (dC (.int 6)))) (dRet (dOp rdIx (dLstV (dCons (dC .non) (dCons (dC (.bl true)) (dCons (dC (.bl false)) (dCons (dC (.str (Str.ofString ""))) (dCons (dC (.str (Str.ofString "a"))) (dCons (dC (.str (Str.ofString "0"))) dNil))))))) (dVar 1))) dNext)
    (dSeq (dIfS (dTest (dOp rdLt (dVar 1) (dC (.int 12)))) (dRet (dOp rdIx (dLstV (dCons (dTup dNil) (dCons (dLstV dNil) (dCons dDict0 (dCons (dTup (dCons (dC (.int 1)) dNil)) (dCons (dLstV (dCons (dC (.int 0)) dNil)) (dCons (dTup (dCons (dTup dNil) dNil)) dNil))))))) (dOp rdSub (dVar 1) (dC (.int 6))))) dNext)
    (dSeq (dIfS (dTest (dOp rdLt (dVar 1) (dC (.int 18)))) (dRet (dOp rdIx (dLstV (dCons (dNeg (dC (.int 1))) (dCons (dC (.int 2147483648)) (dCons (dNeg (dC (.int 2147483649))) (dCons (dOp rdSub (dOp rdPow (dC (.int 10)) (dC (.int 20))) (dC (.int 1))) (dCons (dOp rdSub (dC (.int 1)) (dOp rdPow (dC (.int 10)) (dC (.int 20)))) (dCons (dC (.int 300)) dNil))))))) (dOp rdSub (dVar 1) (dC (.int 12))))) dNext)
    (dSeq (dIfS (dTest (dOp rdEq (dVar 1) (dC (.int 18)))) (dRet (dLstV (dCons (dOp rdMulS (dC (.str (Str.ofString "."))) (dC (.int 3))) (dCons (dTup (dCons (dC .non) (dCons (dC (.int 0)) dNil))) dNil)))) dNext)
    (dRet (dDict1 (dC (.str (Str.ofString "tick"))) (dTup dNil))))))))
theorem rd__law_odd (A : Ad) : Rd (r__law_odd A) 2 (sp__law_odd A) := by
  rintro ds S Q X ⟨a, rfl, hH, h⟩
  unfold r__law_odd
  refine cut_seq (fun ρ T => ∃ r : Int, 0 ≤ r ∧ r < 20 ∧ IsH a T T ∧ Gr a S T ∧ ρ = [some (.ref a), some (.int r)]) (fun N hN => ?_) (fun ρ T hM => ?_)
  · simp_arith only [and_self]
    (refine tk hH (fun r T1 h1 g1 a1 b1 => ?_) (by first | decide | omega) (by first | decide | omega); try simp_arith only [and_self])
    exact hN _ _ ⟨r, a1, b1, h1, g1, rfl⟩
  obtain ⟨r, r0, r1, hT, gT, rfl⟩ := hM
  have sel : ∀ (xs : List Dv) (k : Int) (U : Sto), xs.all plO = true → 0 ≤ k → k < xs.length → IsH a U U → Gr a T U → ∃ d, atI xs k = some d ∧ Q d U := fun xs k U hx k0 k1 hU gU => by
    obtain ⟨d, hd⟩ : ∃ d, xs[k.toNat]? = some d := ⟨_, List.getElem?_eq_getElem (by omega)⟩
    exact ⟨d, by rw [atI_nn k0]; exact hd, h d U hU (gT.trans gU) (odd_p (List.all_eq_true.mp hx d (List.mem_of_getElem? hd)))⟩
  refine cut_seq (fun ρ U => U = T ∧ ¬ r < 6 ∧ ρ = [some (.ref a), some (.int r)]) (fun N hN => ?_) (fun ρ U hM => ?_)
  · simp_arith only [and_self]
    by_cases c : r < 6
    · rw [if_pos c]
      exact ⟨slK, sel _ r T (by decide +kernel) r0 c hT Gr.refl⟩
    · rw [if_neg c]
      exact hN _ _ ⟨rfl, c, rfl⟩
  obtain ⟨rfl, c6, rfl⟩ := hM
  refine cut_seq (fun ρ T => T = U ∧ ¬ r < 12 ∧ ρ = [some (.ref a), some (.int r)]) (fun N hN => ?_) (fun ρ T hM => ?_)
  · simp_arith only [and_self]
    by_cases c : r < 12
    · rw [if_pos c]
      refine ⟨slK, slK, ?_⟩
      unfold dDict0
      intro p hp
      obtain ⟨pa, pB⟩ := hT.free hp
      have hU := hT.putN (m := .dK []) hp
      have gU : Gr a U (put U p (.dK [])) := Gr.of_sub (Sub.new hp)
      refine ⟨slK, slK, slK, slK, slK, ?_⟩
      by_cases c8 : r = 8
      · subst c8
        exact ⟨_, rfl, h _ _ hU (gT.trans gU) (kn_dict (b := p) put_same pa)⟩
      · have e : atI [Dv.tup [], Dv.rol [], Dv.ref p, Dv.tup [Dv.int 1], Dv.rol [Dv.int 0], Dv.tup [Dv.tup []]] (r - 6) = atI [Dv.tup [], Dv.rol [], Dv.non, Dv.tup [Dv.int 1], Dv.rol [Dv.int 0], Dv.tup [Dv.tup []]] (r - 6) := by
          obtain rfl | rfl | rfl | rfl | rfl : r = 6 ∨ r = 7 ∨ r = 9 ∨ r = 10 ∨ r = 11 := by omega
          all_goals rfl
        rw [e]
        exact sel _ (r - 6) _ (by decide +kernel) (by omega) (by simp; omega) hU gU
    · rw [if_neg c]
      exact hN _ _ ⟨rfl, c, rfl⟩
  obtain ⟨rfl, c12, rfl⟩ := hM
  refine cut_seq (fun ρ U => U = T ∧ ¬ r < 18 ∧ ρ = [some (.ref a), some (.int r)]) (fun N hN => ?_) (fun ρ U hM => ?_)
  · simp_arith only [and_self]
    by_cases c : r < 18
    · rw [if_pos c]
      exact ⟨⟨by decide, by decide, by decide⟩, ⟨by decide, by decide, by decide⟩, slK, sel _ (r - 12) _ (by decide +kernel) (by omega) (by simp; omega) hT Gr.refl⟩
    · rw [if_neg c]
      exact hN _ _ ⟨rfl, c, rfl⟩
  obtain ⟨rfl, c18, rfl⟩ := hM
  simp_arith only [and_self]
  by_cases c : r = 18
  · rw [if_pos c]
    exact ⟨⟨by decide, by decide, by decide +kernel, by decide +kernel⟩, slK, slK, h _ _ hT gT (odd_p rfl)⟩
  · rw [if_neg c]
    unfold dDict1
    intro p hp
    obtain ⟨pa, pB⟩ := hT.free hp
    simp_arith only [and_self]
    refine ⟨slK, ?_⟩
    have hU := hT.putN (m := .dK [(.inr (Str.ofString "tick"), .tup [])]) hp
    exact h _ _ hU (gT.trans (Gr.of_sub (Sub.new hp))) (kn_dict (b := p) put_same pa)
/-! ### drawn rows -/
def sp__law_ground_sign (A : Ad) : SpD := fun ds S Q _ => ∃ a n, ds = [.ref a, .int n] ∧ IsH a S S ∧ ∀ c T, IsH a S T → isSg c = true → Q (one c) T
theorem len__law_ground_sign (A : Ad) : ∀ ds S Q X, sp__law_ground_sign A ds S Q X → ds.length = 2 := by rintro _ _ _ _ ⟨_, _, rfl, _⟩; rfl
def r__law_ground_sign (A : Ad) : DS := (dSeq (dAsg (dCall (sp__law_take A) (dCons (dVar 0) (dCons (dC (.int 12)) dNil))) (gN 2))
    (dSeq (dIfS (dTest (dOp rdLt (dVar 2) (dVar 1))) (dRet (dC (.str (Str.ofString "#")))) dNext)
    (dSeq (dIfS (dTest (dOp rdEq (dVar 2) (dC (.int 11)))) (dRet (dOp rdIx (dC (.str (Str.ofString "0123456789"))) (dCall (sp__law_take A) (dCons (dVar 0) (dCons (dC (.int 10)) dNil))))) dNext)
    (dRet (dC (.str (Str.ofString ".")))))))
theorem rd__law_ground_sign (A : Ad) : Rd (r__law_ground_sign A) 3 (sp__law_ground_sign A) := by
  rintro ds S Q X ⟨a, n, rfl, hH, h⟩
  unfold r__law_ground_sign
  simp_arith only [and_self]
  (refine ask hH (fun r T1 h1 a1 b1 => ?_) (by first | decide | omega) (by first | decide | omega); try simp_arith only [and_self])
  by_cases c : r < n
  · rw [if_pos c, str1]
    exact h 35 T1 h1 (by decide)
  · rw [if_neg c]
    by_cases c2 : r = 11
    · rw [if_pos c2]
      (refine ask h1 (fun k T2 h2 a2 b2 => ?_) (by first | decide | omega) (by first | decide | omega); try simp_arith only [and_self])
      have e : (Str.ofString "0123456789").cps.toList = [48, 49, 50, 51, 52, 53, 54, 55, 56, 57] := by decide +kernel
      refine ⟨slK (by decide +kernel), ?_⟩
      rw [e]
      obtain ⟨c, hc⟩ : ∃ c, ([48, 49, 50, 51, 52, 53, 54, 55, 56, 57] : List Nat)[k.toNat]? = some c := ⟨_, List.getElem?_eq_getElem (by simp; omega)⟩
      refine ⟨c, by rw [atI_nn a2]; exact hc, h c T2 h2 ?_⟩
      have hm := List.mem_of_getElem? hc
      have : ∀ c ∈ ([48, 49, 50, 51, 52, 53, 54, 55, 56, 57] : List Nat), isSg c = true := by decide
      exact this c hm
    · rw [if_neg c2, show Str.ofString "." = ⟨#[46]⟩ by decide +kernel]
      exact h 46 T1 h1 (by decide)
open TL in
theorem joinL_nil : ∀ xs : List (List Nat), joinL [] xs = xs.flatten
  | [] => rfl
  | [p] => by simp [joinL]
  | p :: q :: r => by
    show p ++ ([] ++ joinL [] (q :: r)) = _
    rw [joinL_nil (q :: r)]
    simp
open TL in
theorem join_ones {cs : List Nat} : (Txt.join (Str.ofString "") (cs.map fun c => (⟨#[c]⟩ : Str))).cps.toList = cs := by
  rw [join_eq]
  have z := tl_join (Str.ofString "") (cs.map fun c => (⟨#[c]⟩ : Str))
  rw [show tl (Str.ofString "") = [] by decide +kernel, joinL_nil, List.map_map] at z
  have e : ∀ cs : List Nat, (cs.map (tl ∘ fun c => (⟨#[c]⟩ : Str))).flatten = cs := fun cs => by
    induction cs with
    | nil => rfl
    | cons c cs ih =>
      rw [List.map_cons, List.flatten_cons, ih]
      rfl
  rw [e] at z
  exact z
theorem ones_of {acc : List Dv} (h : ∀ (i : Nat) y, acc[i]? = some y → ∃ c, y = one c ∧ isSg c = true) : ∃ cs : List Nat, acc = (cs.map fun c => (⟨#[c]⟩ : Str)).map Dv.str ∧ cs.length = acc.length ∧ cs.all isSg = true := by
  induction acc with
  | nil => exact ⟨[], rfl, rfl, rfl⟩
  | cons d acc ih =>
    obtain ⟨c, rfl, hc⟩ := h 0 d rfl
    obtain ⟨cs, e, hl, hs⟩ := ih fun i y hy => h (i + 1) y hy
    exact ⟨c :: cs, by rw [e]; rfl, by simp [hl], by rw [List.all_cons, hc, hs]; rfl⟩
def sp__law_rows (A : Ad) : SpD := fun ds S Q _ => ∃ (a : Addr) (w h : Nat), ds = [.ref a, .int (w : Nat), .int (h : Nat)] ∧ IsH a S S ∧ 1 ≤ w ∧ w ≤ 12 ∧ 1 ≤ h ∧ h ≤ 8 ∧ ∀ zs T, IsH a T T → Gr a S T → OkG zs w → zs.length = h → Q (rowsD zs) T
theorem len__law_rows (A : Ad) : ∀ ds S Q X, sp__law_rows A ds S Q X → ds.length = 3 := by rintro _ _ _ _ ⟨_, _, _, rfl, _⟩; rfl
def r__law_rows (A : Ad) : DS := (dSeq (dAsg (dCall (sp__law_take A) (dCons (dVar 0) (dCons (dC (.int 4)) dNil))) (gN 3))
    (dSeq (dAsg (dLst dNil) (gN 4))
    (dSeq (dFor (iR1 (dCons (dVar 2) dNil)) (gN 5) (dDrop (dBM rdAppend (dVar 4) (dCons (dJoin (dC (.str (Str.ofString ""))) (dFrz (dLc (iR1 (dCons (dVar 1) dNil)) (gN 6) dYes (dCall (sp__law_ground_sign A) (dCons (dVar 0) (dCons (dVar 3) dNil))) [6]))) dNil))))
    (dRet (dCB rdTuple (dCons (dVar 4) dNil))))))
theorem rd__law_rows (A : Ad) : Rd (r__law_rows A) 7 (sp__law_rows A) := by
  rintro ds S Q X ⟨a, w, h, rfl, hH, w1, w2, h1, h2, q⟩
  unfold r__law_rows
  refine cut_seq (fun ρ T => ∃ f : Int, IsH a T T ∧ Gr a S T ∧ ρ = [some (.ref a), some (.int (w : Nat)), some (.int (h : Nat)), some (.int f), none, none, none]) (fun N hN => ?_) (fun ρ T hM => ?_)
  · simp_arith only [and_self]
    (refine tk hH (fun r T1 i1 g1 a1 b1 => ?_) (by first | decide | omega) (by first | decide | omega); try simp_arith only [and_self])
    exact hN _ _ ⟨r, i1, g1, rfl⟩
  obtain ⟨f, hT, gT, rfl⟩ := hM
  simp_arith only [and_self]
  refine ⟨slK, fun p hp => ?_⟩
  obtain ⟨pa, pS⟩ := hT.free hp
  have hP := hT.putN (m := .lst []) hp
  refine for_go (fun j ρ U => ∃ (zs : List Str) (y5 : Option Dv), zs.length = j ∧ (∀ z ∈ zs, z.length = w ∧ z.cps.toList.all isSg = true) ∧ IsH a U U ∧ Gr a T U ∧ U p = some (.lst (zs.map Dv.str)) ∧ ρ = [some (.ref a), some (.int (w : Nat)), some (.int (h : Nat)), some (.int f), some (.ref p), y5, none])
    ⟨[], _, rfl, (fun z hz => by cases hz), hP, Gr.of_sub (Sub.new hp), put_same, rfl⟩ (fun _ _ _ _ _ => trivial) (fun j z ρ U hz hw => ?_) fun ρ U hw => ?_
  · obtain ⟨zs, y5, hj, hzs, hU, gU, hp2, rfl⟩ := hw
    have hj2 := (List.getElem?_eq_some_iff.mp hz).1
    rw [rangeL_len] at hj2
    simp_arith only [and_self]
    rw [hp2]
    refine ⟨trivial, ?_⟩
    unfold dJoin
    simp_arith only [and_self]
    refine ⟨⟨_, rfl⟩, ?_⟩
    refine lcV_hand (B := U) (fun _ y => ∃ c, y = one c ∧ isSg c = true) hU (by show (rangeL 0 ((w : Nat) : Int).toNat 1).length ≤ sizeLine; rw [rangeL_len]; exact slK (by omega)) (fun _ _ _ _ => trivial) (fun i x hx B' T2 K hB hT2 hK => ?_) (fun acc T2 hT2 hl hP => ?_)
    · simp_arith only [and_self]
      exact ⟨a, f, rfl, hT2.self, fun c T3 h3 hc => hK _ _ ⟨c, rfl, hc⟩ (hT2.trans h3)⟩
    · obtain ⟨cs, rfl, hcl, hcs⟩ := ones_of hP
      rw [rangeL_len] at hl
      have hcl2 : cs.length = w := by omega
      refine ⟨_, rfl, ?_⟩
      rw [seqOf_rol]
      have es : ∀ cs : List Nat, ((cs.map fun c => (⟨#[c]⟩ : Str)).map (fun x => x.length)).sum = cs.length := fun cs => by
        induction cs with
        | nil => rfl
        | cons c cs ih =>
          rw [List.map_cons, List.map_cons, List.sum_cons, ih, List.length_cons]
          show 1 + _ = _
          omega
      refine ⟨_, rfl, by rw [es, List.length_map, show (Str.ofString "").length = 0 by decide +kernel]; omega, ?_⟩
      rw [hT2.at_ pa, hp2]
      dsimp only
      refine ⟨by rw [sizeLine_eq, List.length_map]; omega, zs ++ [Txt.join (Str.ofString "") (cs.map fun c => (⟨#[c]⟩ : Str))], _, by rw [List.length_append, hj]; rfl, fun z hz => ?_, hT2.self.off (put_ne pa.symm), ?_, by rw [List.map_append]; rfl, rfl⟩
      · rcases List.mem_append.mp hz with hz | hz
        · exact hzs z hz
        · rw [List.mem_singleton.mp hz, len_cps, join_ones]
          exact ⟨hcl2, hcs⟩
      · intro b m hb e
        rw [put_ne (fun z => by rw [z, hp] at e; cases e)]
        exact (gU.trans (IsH.gr (B := U) hT2)) b m hb e
  · obtain ⟨zs, y5, hj, hzs, hU, gU, hp2, rfl⟩ := hw
    simp_arith only [and_self]
    unfold rdTuple
    dsimp only
    rw [seqOf_ref hp2]
    refine ⟨U, (fun _ _ e => e), ?_⟩
    rw [rangeL_len] at hj
    exact q zs U hU (gT.trans gU) ⟨by omega, by omega, w1, by omega, hzs⟩ (by omega)
def sp__law_ground (A : Ad) : SpD := fun ds S Q _ => ∃ a, ds = [.ref a] ∧ IsH a S S ∧ ∀ zs n T, IsH a T T → Gr a S T → OkG zs n → n ≤ 12 → zs.length ≤ 8 → Q (rowsD zs) T
theorem len__law_ground (A : Ad) : ∀ ds S Q X, sp__law_ground A ds S Q X → ds.length = 1 := by rintro _ _ _ _ ⟨_, rfl, _⟩; rfl
def r__law_ground (A : Ad) : DS := (dSeq (dAsg (dCall (sp__law_take A) (dCons (dVar 0) (dCons (dC (.int 9)) dNil))) (gN 1))
    (dSeq (dIfS (dTest (dOp rdEq (dVar 1) (dC (.int 0)))) (dRet (dCall (sp__law_rows A) (dCons (dVar 0) (dCons (dOp rdAddV (dC (.int 1)) (dCall (sp__law_take A) (dCons (dVar 0) (dCons (dC (.int 12)) dNil)))) (dCons (dOp rdAddV (dC (.int 1)) (dCall (sp__law_take A) (dCons (dVar 0) (dCons (dC (.int 8)) dNil)))) dNil))))) dNext)
    (dSeq (dIfS (dTest (dOp rdEq (dVar 1) (dC (.int 1)))) (dRet (dCall (sp__law_rows A) (dCons (dVar 0) (dCons (dC (.int 1)) (dCons (dC (.int 1)) dNil))))) dNext)
    (dRet (dCall (sp__law_rows A) (dCons (dVar 0) (dCons (dOp rdAddV (dC (.int 2)) (dCall (sp__law_take A) (dCons (dVar 0) (dCons (dC (.int 5)) dNil)))) (dCons (dOp rdAddV (dC (.int 2)) (dCall (sp__law_take A) (dCons (dVar 0) (dCons (dC (.int 4)) dNil)))) dNil))))))))
theorem rd__law_ground (A : Ad) : Rd (r__law_ground A) 2 (sp__law_ground A) := by
  rintro ds S Q X ⟨a, rfl, hH, q⟩
  unfold r__law_ground
  refine cut_seq (fun ρ T => ∃ r : Int, IsH a T T ∧ Gr a S T ∧ ρ = [some (.ref a), some (.int r)]) (fun N hN => ?_) (fun ρ T hM => ?_)
  · simp_arith only [and_self]
    (refine tk hH (fun r T1 h1 g1 a1 b1 => ?_) (by first | decide | omega) (by first | decide | omega); try simp_arith only [and_self])
    exact hN _ _ ⟨r, h1, g1, rfl⟩
  obtain ⟨r, hT, gT, rfl⟩ := hM
  have fin : ∀ {U : Sto} {w h : Int}, IsH a U U → Gr a S U → 1 ≤ w → w ≤ 12 → 1 ≤ h → h ≤ 8 → ∀ {X2 : XD}, sp__law_rows A [.ref a, .int w, .int h] U Q X2 := fun {U w h} hU gU w1 w2 h1 h2 {X2} => by
    obtain ⟨w, rfl⟩ := Int.eq_ofNat_of_zero_le (show 0 ≤ w by omega)
    obtain ⟨h, rfl⟩ := Int.eq_ofNat_of_zero_le (show 0 ≤ h by omega)
    exact ⟨a, w, h, rfl, hU, by omega, by omega, by omega, by omega, fun zs T hT gT ok hl => q zs w T hT (gU.trans gT) ok (by omega) (by omega)⟩
  simp_arith only [and_self]
  by_cases c0 : r = 0
  · rw [if_pos c0]
    (refine tk hT (fun r1 T1 h1 g1 a1 b1 => ?_) (by first | decide | omega) (by first | decide | omega); try simp_arith only [and_self])
    (refine tk h1 (fun r2 T2 h2 g2 a2 b2 => ?_) (by first | decide | omega) (by first | decide | omega); try simp_arith only [and_self])
    exact fin h2 (gT.trans (g1.trans g2)) (by omega) (by omega) (by omega) (by omega)
  · rw [if_neg c0]
    by_cases c1 : r = 1
    · rw [if_pos c1]
      exact fin hT gT (by omega) (by omega) (by omega) (by omega)
    · rw [if_neg c1]
      (refine tk hT (fun r1 T1 h1 g1 a1 b1 => ?_) (by first | decide | omega) (by first | decide | omega); try simp_arith only [and_self])
      (refine tk h1 (fun r2 T2 h2 g2 a2 b2 => ?_) (by first | decide | omega) (by first | decide | omega); try simp_arith only [and_self])
      exact fin h2 (gT.trans (g1.trans g2)) (by omega) (by omega) (by omega) (by omega)
def sp__law_sign (A : Ad) : SpD := fun ds S Q _ => ∃ zs n x y, ds = [rowsD zs, .int x, .int y] ∧ OkG zs n ∧ Q (one (sgn zs n x y)) S
theorem len__law_sign (A : Ad) : ∀ ds S Q X, sp__law_sign A ds S Q X → ds.length = 3 := by rintro _ _ _ _ ⟨_, _, _, _, rfl, _⟩; rfl
def r__law_sign (A : Ad) : DS := (dSeq (dIfS (dOrT (dTest (dOp rdLt (dVar 1) (dC (.int 0)))) (dOrT (dTest (dOp rdLt (dVar 2) (dC (.int 0)))) (dOrT (dTest (dOp rdGe (dVar 1) (dOp rdMulV (dC (.int 8)) (dCB rdLen (dCons (dOp rdIx (dVar 0) (dC (.int 0))) dNil))))) (dTest (dOp rdGe (dVar 2) (dOp rdMulV (dC (.int 8)) (dCB rdLen (dCons (dVar 0) dNil)))))))) (dRet (dC (.str (Str.ofString "#")))) dNext)
    (dRet (dOp rdIx (dOp rdIx (dVar 0) (dOp rdDiv (dVar 2) (dC (.int 8)))) (dOp rdDiv (dVar 1) (dC (.int 8))))))
theorem rd__law_sign (A : Ad) : Rd (r__law_sign A) 3 (sp__law_sign A) := by
  rintro ds S Q X ⟨zs, n, x, y, rfl, ok, q⟩
  obtain ⟨z0, hz0, l0, _⟩ := ok.head
  have ln := ok.n2
  have ll := ok.l2
  have out : ¬ ((0 ≤ x ∧ x < 8 * (n : Int)) ∧ 0 ≤ y ∧ y < 8 * (zs.length : Int)) → Q (.str (Str.ofString "#")) S := fun c => by
    rw [sgn_out c, one, ← str1] at q
    exact q
  unfold r__law_sign rowsD
  simp_arith only [and_self]
  by_cases x0 : x < 0
  · rw [if_pos x0]
    exact out (by omega)
  · rw [if_neg x0]
    by_cases y0 : y < 0
    · rw [if_pos y0]
      exact out (by omega)
    · rw [if_neg y0]
      refine ⟨_, by rw [List.getElem?_map, hz0]; rfl, ?_⟩
      simp_arith only [and_self]
      rw [List.length_map, l0]
      refine ⟨slK (by omega), mulok_l (by decide) (by decide), ?_⟩
      by_cases x1 : 8 * (n : Int) ≤ x
      · rw [if_pos x1]
        exact out (by omega)
      · rw [if_neg x1]
        refine ⟨mulok_l (by decide) (by decide), ?_⟩
        by_cases y1 : 8 * (zs.length : Int) ≤ y
        · rw [if_pos y1]
          exact out (by omega)
        · rw [if_neg y1]
          rw [sgn_in (by omega) (by omega) (by omega) (by omega)] at q
          have e := ix_row ok (i := (y / 8).toNat) (k := x / 8) (by omega) (by omega) (by omega) q
          rw [show (((y / 8).toNat : Nat) : Int) = y / 8 by omega] at e
          obtain ⟨d, e1, e2⟩ := e
          exact ⟨divp 64 (by decide) (by decide), d, e1, divp 64 (by decide) (by decide), e2⟩
def sp__law_units_open (A : Ad) : SpD := fun ds S Q _ => ∃ zs n x y w h, ds = [rowsD zs, .int x, .int y, .int w, .int h] ∧ OkG zs n ∧ ∀ b : Bool, (b = true ↔ Free zs n x y w h) → Q (.bl b) S
theorem len__law_units_open (A : Ad) : ∀ ds S Q X, sp__law_units_open A ds S Q X → ds.length = 5 := by rintro _ _ _ _ ⟨_, _, _, _, _, _, rfl, _⟩; rfl
def r__law_units_open (A : Ad) : DS := (dSeq (dFor (iR1 (dCons (dVar 3) dNil)) (gN 5) (dFor (iR1 (dCons (dVar 4) dNil)) (gN 6) (dIfS (dTest (dOp rdEq (dCall (sp__law_sign A) (dCons (dVar 0) (dCons (dOp rdAddV (dVar 1) (dVar 5)) (dCons (dOp rdAddV (dVar 2) (dVar 6)) dNil)))) (dC (.str (Str.ofString "#"))))) (dRet (dC (.bl false))) dNext)))
    (dRet (dC (.bl true))))
theorem rd__law_units_open (A : Ad) : Rd (r__law_units_open A) 7 (sp__law_units_open A) := by
  rintro ds S Q X ⟨zs, n, x, y, w, h, rfl, ok, q⟩
  unfold r__law_units_open
  simp_arith only [and_self]
  refine for_go (fun k ρ T => T = S ∧ (∀ i j : Int, 0 ≤ i → i < k → 0 ≤ j → j < h → sgn zs n (x + i) (y + j) ≠ 35) ∧ ∃ y5 y6, ρ = [some (rowsD zs), some (.int x), some (.int y), some (.int w), some (.int h), y5, y6])
    ⟨rfl, (fun i j i0 i1 => by omega), _, _, rfl⟩ (fun _ _ _ _ _ => trivial) (fun k z ρ T hz hw => ?_) fun ρ T hw => ?_
  · obtain ⟨rfl, hall, y5, y6, rfl⟩ := hw
    obtain ⟨hk, rfl⟩ := rangeL_mem hz
    simp_arith only [and_self]
    refine for_go (fun m ρ U => U = T ∧ (∀ j : Int, 0 ≤ j → j < m → sgn zs n (x + k) (y + j) ≠ 35) ∧ ∃ y6, ρ = [some (rowsD zs), some (.int x), some (.int y), some (.int w), some (.int h), some (.int (0 + (k : Int))), y6])
      ⟨rfl, (fun j j0 j1 => by omega), _, rfl⟩ (fun _ _ _ _ _ => trivial) (fun m z ρ U hz hw => ?_) fun ρ U hw => ?_
    · obtain ⟨rfl, hin, y6, rfl⟩ := hw
      obtain ⟨hm, rfl⟩ := rangeL_mem hz
      simp_arith only [and_self]
      refine ⟨zs, n, _, _, rfl, ok, ?_⟩
      unfold one
      simp_arith only [and_self]
      have ez : ∀ v : Int, (0 : Int) + v = v := fun v => by omega
      rw [ez, ez]
      by_cases e : sgn zs n (x + k) (y + m) = 35
      · rw [if_pos (by rw [e, str1])]
        exact q false ⟨(fun z => by cases z), fun z => absurd e (z k m (by omega) (by omega) (by omega) (by omega))⟩
      · rw [if_neg (by
          rw [str1]
          intro z
          have z := congrArg (fun s : Str => s.cps.toList) z
          simp only [List.cons.injEq, and_true] at z
          exact e z)]
        refine ⟨fun j j0 j1 => ?_, _, rfl⟩
        by_cases ej : j = m
        · rw [ej]
          exact e
        · exact hin j j0 (by omega)
    · obtain ⟨rfl, hin, y6, rfl⟩ := hw
      rw [rangeL_len] at hin
      refine ⟨rfl, fun i j i0 i1 j0 j1 => ?_, _, _, rfl⟩
      by_cases e : i = k
      · rw [e]
        exact hin j j0 (by omega)
      · exact hall i j i0 (by omega) j0 j1
  · obtain ⟨rfl, hall, y5, y6, rfl⟩ := hw
    rw [rangeL_len] at hall
    simp_arith only [and_self]
    exact q true ⟨fun _ i j i0 i1 j0 j1 => hall i j i0 (by omega) j0 j1, fun _ => rfl⟩
theorem sg_eq {c : Nat} : (!decide (c ∈ ([35, 46, 48, 49, 50, 51, 52, 53, 54, 55, 56, 57] : List Nat))) = !isSg c := by
  unfold isSg sgL
  rw [decide_eq_decide.mpr]
  simp only [List.mem_cons, List.not_mem_nil, or_false]
  omega
def badD (d : Dv) : Dv := match badG d with
  | none => .non
  | some i => .int i
def sp__law_first_bad (A : Ad) : SpD := fun ds S Q _ => ∃ d, ds = [d] ∧ kL A S d ∧ Q (badD d) S
theorem len__law_first_bad (A : Ad) : ∀ ds S Q X, sp__law_first_bad A ds S Q X → ds.length = 1 := by rintro _ _ _ _ ⟨_, rfl, _⟩; rfl
def r__law_first_bad (A : Ad) : DS := (dSeq (dIfS (dOrT (dNotT (dTest (dCB (rdIsi A.ot) (dCons (dVar 0) (dCons (dC (.ty "tuple")) dNil))))) (dOrT (dTest (dOp rdLt (dCB rdLen (dCons (dVar 0) dNil)) (dC (.int 1)))) (dTest (dOp rdGt (dCB rdLen (dCons (dVar 0) dNil)) (dC (.int 30)))))) (dRet (dNeg (dC (.int 1)))) dNext)
    (dSeq (dFor (iR1 (dCons (dCB rdLen (dCons (dVar 0) dNil)) dNil)) (gN 1) (dSeq (dAsg (dOp rdIx (dVar 0) (dVar 1)) (gN 2))
    (dSeq (dIfS (dOrT (dNotT (dTest (dCB (rdIsi A.ot) (dCons (dVar 2) (dCons (dC (.ty "str")) dNil))))) (dOrT (dTest (dOp rdLt (dCB rdLen (dCons (dVar 2) dNil)) (dC (.int 1)))) (dOrT (dTest (dOp rdGt (dCB rdLen (dCons (dVar 2) dNil)) (dC (.int 40)))) (dTest (dOp rdNe (dCB rdLen (dCons (dVar 2) dNil)) (dCB rdLen (dCons (dOp rdIx (dVar 0) (dC (.int 0))) dNil))))))) (dRet (dVar 1)) dNext)
    (dIfS (dTest (dOp rdGt (dCB rdLen (dCons (dFrz (dLc (iStrD (dVar 2)) (gN 3) (dTest (dOp (rdIn1 fun b => !b) (dVar 3) (dC (.str (Str.ofString "#.0123456789"))))) (dVar 3) [3])) dNil)) (dC (.int 0)))) (dRet (dVar 1)) dNext))))
    (dRet (dC .non))))
theorem rd__law_first_bad (A : Ad) : Rd (r__law_first_bad A) 4 (sp__law_first_bad A) := by
  rintro ds S Q X ⟨d, rfl, hk, q⟩
  unfold r__law_first_bad
  have no : badG d = some (-1) → Q (.int (-1)) S := fun e => by
    unfold badD at q
    rw [e] at q
    exact q
  refine cut_seq (fun ρ T => T = S ∧ (∃ xs, d = .tup xs ∧ 1 ≤ xs.length ∧ xs.length ≤ 30) ∧ ρ = [some d, none, none, none]) (fun N hN => ?_) (fun ρ T hM => ?_)
  · simp_arith only [and_self]
    refine isi_tuple hk.1 ?_
    cases d with
    | tup xs =>
      unfold isTup
      simp_arith only [and_self]
      have ng : ¬ (1 ≤ xs.length ∧ xs.length ≤ 30) → badG (.tup xs) = some (-1) := fun c => by
        unfold badG
        dsimp only
        rw [if_neg c]
      rw [if_neg (by decide)]
      by_cases c1 : (xs.length : Int) < 1
      · rw [if_pos c1]
        exact no (ng (by omega))
      · rw [if_neg c1]
        by_cases c2 : 30 < (xs.length : Int)
        · rw [if_pos c2]
          exact no (ng (by omega))
        · rw [if_neg c2]
          exact hN _ _ ⟨rfl, ⟨xs, rfl, by omega, by omega⟩, rfl⟩
    | _ => exact no rfl
  obtain ⟨rfl, ⟨xs, rfl, l1, l2⟩, rfl⟩ := hM
  clear no
  obtain ⟨x0, hx0⟩ : ∃ y, xs[0]? = some y := ⟨_, List.getElem?_eq_getElem (by omega : 0 < xs.length)⟩
  have eD : xs.getD 0 .non = x0 := by rw [List.getD, hx0]; rfl
  have eb : badG (.tup xs) = firstB xs (lenS x0) 0 := by
    unfold badG
    dsimp only
    rw [if_pos ⟨l1, l2⟩, eD]
  unfold badD at q
  rw [eb] at q
  have kx := hk.2 xs rfl
  simp_arith only [and_self]
  refine for_go (fun j ρ U => U = T ∧ (0 < j → rowS x0 = true) ∧ firstB xs (lenS x0) 0 = firstB (xs.drop j) (lenS x0) j ∧ ∃ y1 y2, ρ = [some (.tup xs), y1, y2, none])
    ⟨rfl, (fun z => absurd z (by decide)), rfl, _, _, rfl⟩ (fun _ _ _ _ _ => trivial) (fun j z ρ U hz hw => ?_) fun ρ U hw => ?_
  · obtain ⟨rfl, h0, hf, y1, y2, rfl⟩ := hw
    obtain ⟨hj, rfl⟩ := rangeL_mem hz
    have hj : j < xs.length := by omega
    obtain ⟨y, hy⟩ : ∃ y, xs[j]? = some y := ⟨_, List.getElem?_eq_getElem hj⟩
    have hdrop : xs.drop j = y :: xs.drop (j + 1) := by
      rw [List.drop_eq_getElem_cons hj, (List.getElem?_eq_some_iff.mp hy).2]
    rw [hdrop, firstB_cons] at hf
    have ky := kx y (List.mem_of_getElem? hy)
    have bad : goodS (lenS x0) y = false → Q (.int (0 + (j : Int))) U := fun e => by
      rw [if_neg (by rw [e]; decide)] at hf
      rw [hf] at q
      rw [Int.zero_add]
      exact q
    refine cut_seq (fun ρ V => V = U ∧ ρ = [some (.tup xs), some (.int (0 + (j : Int))), some y, none]) (fun N hN => ?_) (fun ρ V hM => ?_)
    · simp_arith only [and_self]
      exact ⟨y, by rw [atI_nn (by omega), show (0 + (j : Int)).toNat = j by omega]; exact hy, hN _ _ ⟨rfl, rfl⟩⟩
    obtain ⟨rfl, rfl⟩ := hM
    refine cut_seq (fun ρ U => U = V ∧ (∃ z, y = .str z ∧ 1 ≤ z.length ∧ z.length ≤ 40 ∧ z.length = lenS x0) ∧ ρ = [some (.tup xs), some (.int (0 + (j : Int))), some y, none]) (fun N hN => ?_) (fun ρ U hM => ?_)
    · simp_arith only [and_self]
      refine isi_str ky.1 ?_
      cases y with
      | str z =>
        have hz0 := ky.2 z rfl
        unfold isStr
        simp_arith only [and_self]
        rw [if_neg (by decide)]
        refine ⟨slK (by omega), ?_⟩
        have badz : ¬ (1 ≤ z.length ∧ z.length ≤ 40 ∧ z.length = lenS x0) → Q (.int (0 + (j : Int))) V := fun c => bad (by
          show (decide (1 ≤ z.length) && decide (z.length ≤ 40) && z.cps.toList.all isSg && decide (z.length = lenS x0)) = false
          by_cases b1 : 1 ≤ z.length
          · by_cases b2 : z.length ≤ 40
            · rw [decide_eq_false (p := z.length = _) fun e => c ⟨b1, b2, e⟩, Bool.and_false]
            · rw [decide_eq_false b2]
              simp
          · rw [decide_eq_false b1]
            simp)
        by_cases c1 : (z.length : Int) < 1
        · rw [if_pos c1]
          exact badz (by omega)
        · rw [if_neg c1]
          refine ⟨slK (by omega), ?_⟩
          by_cases c2 : 40 < (z.length : Int)
          · rw [if_pos c2]
            exact badz (by omega)
          · rw [if_neg c2]
            refine ⟨slK (by omega), _, hx0, ?_⟩
            have s0 : ∃ z0, x0 = .str z0 := by
              by_cases hj0 : j = 0
              · subst hj0
                rw [hx0] at hy
                cases hy
                exact ⟨z, rfl⟩
              · have r0 := h0 (by omega)
                cases x0 with
                | str z => exact ⟨z, rfl⟩
                | _ => cases r0
            obtain ⟨z0, rfl⟩ := s0
            have hz00 := (kx _ (List.mem_of_getElem? hx0)).2 z0 rfl
            simp_arith only [and_self]
            refine ⟨slK (by omega), ?_⟩
            by_cases c3 : z.length = z0.length
            · rw [if_neg (by rw [c3]; exact fun z => z rfl)]
              exact hN _ _ ⟨rfl, ⟨z, rfl, by omega, by omega, c3⟩, rfl⟩
            · rw [if_pos (by omega)]
              exact badz fun h => c3 h.2.2
      | _ => exact bad rfl
    obtain ⟨rfl, ⟨z, rfl, z1, z2, z3⟩, rfl⟩ := hM
    simp_arith only [and_self]
    unfold iStrD
    simp_arith only [and_self]
    refine lcV_filter (fun d => !sgD d) (fun d => d) (by rw [List.length_map, ← len_cps]; exact slK (by omega)) (fun _ _ _ => trivial) (fun x hx T2 Kq N2 hs hq hn => ?_) ?_
    · obtain ⟨c, _, rfl⟩ := List.mem_map.mp hx
      simp_arith only [and_self]
      refine ⟨c, _, rfl, rfl, ?_⟩
      rw [sg_law]
      dsimp only
      rw [sg_eq]
      have hq : (!isSg c) = true → Kq (.str ⟨#[c]⟩) T2 := hq
      have hn : (!isSg c) = false → N2 T2 := hn
      cases e : isSg c with
      | true => exact hn (by rw [e]; rfl)
      | false => exact hq (by rw [e]; rfl)
    · have er : rowS (.str z) = z.cps.toList.all isSg := by
        show (decide (1 ≤ z.length) && decide (z.length ≤ 40) && z.cps.toList.all isSg) = _
        rw [decide_eq_true z1, decide_eq_true z2]
        rfl
      simp_arith only [and_self]
      have el : ((z.cps.toList.map fun c => Dv.str ⟨#[c]⟩).filter fun d => !sgD d) = (z.cps.toList.filter fun c => !isSg c).map fun c => Dv.str ⟨#[c]⟩ := by
        rw [List.filter_map]
        rfl
      rw [el, List.length_map, List.length_map]
      cases ea : z.cps.toList.all isSg with
      | true =>
        have e0 : (z.cps.toList.filter fun c => !isSg c) = [] := List.filter_eq_nil_iff.mpr fun c hc => by
          rw [List.all_eq_true.mp ea c hc]
          decide
        rw [e0, if_neg (by decide)]
        have gd : goodS (lenS x0) (.str z) = true := by
          unfold goodS
          rw [er, ea, Bool.true_and]
          exact decide_eq_true z3
        rw [if_pos gd] at hf
        refine ⟨fun _ => ?_, hf, _, _, rfl⟩
        by_cases hj0 : j = 0
        · subst hj0
          rw [hx0] at hy
          cases hy
          rw [er, ea]
        · exact h0 (by omega)
      | false =>
        have e0 : 0 < (z.cps.toList.filter fun c => !isSg c).length := by
          rw [List.length_pos_iff]
          intro e
          have := List.filter_eq_nil_iff.mp e
          rw [List.all_eq_false] at ea
          obtain ⟨c, hc, hn⟩ := ea
          exact this c hc (by cases q : isSg c <;> simp_all)
        rw [if_pos (by omega)]
        exact bad (by
          unfold goodS
          rw [er, ea]
          rfl)
  · obtain ⟨rfl, h0, hf, y1, y2, rfl⟩ := hw
    rw [rangeL_len, Int.toNat_natCast, List.drop_length] at hf
    rw [hf] at q
    unfold firstB at q
    simp_arith only [and_self]
    exact q
end Lw

--CLS Ground
namespace Lw
open PySem PySem.Spec PyProof.Rows L2 VD
local macro_rules
  | `(tactic| simp_arith only [$xs,*]) => `(tactic| simp only [dSeq, dAsg, dRet, dRetN, dDrop, dRaise, dBreak, dCont, dPar, dAug, dFor, dNext, dSetF, dAugF, dRaiseF, dIfS, dTest, dOp, dVar, dC, dCB, dCons, dNil, dCall, dAndV, dOrV, dNotV, dAndT, dOrT, dNotT, dIf, dTup, dLst, dLstV, dSl, dSlV, oSome, oNone, dNeg, gN, gT, gConsD, gNilD, gSubD, gFldD, dChain, dLc, dBM, isLst, iSeqD, iR1, iR2, iR3, dYes, isn_non, isn_bl, isn_int, isn_str, isn_ref, isn_tup, isn_rol, isn_obj, rdIx_tup, rdIx_rol, rdIx_put, rdSet, rdLen_tup, rdLen_rol, rdLen_str, rdLen_put, rdAppend, rdExt, rdPopAt, rdIsB, isBlV, rdStrI, rdIntS, dFrz, dFld, insOf_put, dMeth, lstOf_rol, lstOf_put, seqOf_tup, seqOf_rol, seqOf_put, frz_tup, frz_rol, frz_int, frz_bl, frz_non, frz_str, frz_obj, startN, wipeD, List.map_cons, List.map_nil, List.length_cons, List.length_nil, Nat.zero_add, Nat.sub_self, Nat.reduceAdd, Nat.reduceSub, List.replicate_succ, List.replicate_zero, List.cons_append, List.nil_append, List.append_nil, List.getElem?_cons_zero, List.getElem?_cons_succ, List.set_cons_zero, List.set_cons_succ, Option.some.injEq, exists_eq_left', atI_0, atI_1, atI_2, atI_3, atI_4, atI_5, atI_6, atI_7, ixN_50, ixN_51, ixN_52, ixN_53, ixN_54, ixN_30, ixN_31, ixN_32, put_same, put_put, true_and, and_true, decide_true, decide_false, Bool.not_true, Bool.not_false, Bool.false_eq_true, if_true, if_false, decide_eq_true_eq, Bool.not_eq_true', decide_eq_false_iff_not, mem_one, ex_one, and_self, xd_mk, qAdd_i, qAdd_t, qAdd_s, qAdd_l, qMul_i, qMul_t, qMul_l, qSub_i, qDiv_i, qMod_i, qPow_i, qIAdd_i, qEq_i, qEq_b, qEq_s, qCmp_i, qIsN, qSl_t, qSl_l, qSl_s, qInt_i, qInt_b, qInt1, qMax, qMin, qList_t, qList_l, i_Ground, l_Ground, h_Ground_eq, g_Ground_rows, p_Ground_rows, k_Ground_rows, g_Ground_wide, p_Ground_wide, k_Ground_wide, g_Ground_high, p_Ground_high, k_Ground_high, $xs,*])
def plainS : Nat → Dv → Prop
  | 0, _ => False
  | n + 1, d => match d with
    | .non => True
    | .bl _ => True
    | .int _ => True
    | .str _ => True
    | .tup xs => xs.length ≤ 1000 ∧ ∀ x ∈ xs, plainS n x
    | _ => False
theorem plainS_pl {n : Nat} {d : Dv} (h : plainS n d) : isPl d = true := by
  cases n with
  | zero => exact h.elim
  | succ n => cases d <;> first | rfl | exact h.elim
def sp__law_same (A : Ad) : Nat → SpD
  | 0 => fun _ _ _ _ => False
  | n + 1 => fun ds S Q _ => ∃ d, ds = [d, d] ∧ plainS (n + 1) d ∧ Q (.bl true) S
theorem len__law_same (A : Ad) : ∀ n ds S Q X, sp__law_same A n ds S Q X → ds.length = 2
  | 0, _, _, _, _, h => h.elim
  | _ + 1, _, _, _, _, ⟨_, rfl, _⟩ => rfl
theorem isi_list_t {A : Ad} {S : Sto} {xs : List Dv} {Q : QD} (q : Q (.bl false) S) : rdIsi A.ot [.tup xs, .ty "list"] S Q := isi_of (b := false) kn_tup (by decide) (fun t ht => by cases ht; rfl) (fun C ht => by cases ht) q
def r__law_same (A : Ad) (sp_self : SpD) : DS := (dSeq (dIfS (dTest (dOp (rdIsN fun b => b) (dVar 1) (dC .non))) (dRet (dOp (rdIsN fun b => b) (dVar 0) (dC .non))) dNext)
    (dSeq (dIfS (dTest (dOp (rdIsB fun b => b) (dVar 1) (dC (.bl true)))) (dRet (dOp (rdIsB fun b => b) (dVar 0) (dC (.bl true)))) dNext)
    (dSeq (dIfS (dTest (dOp (rdIsB fun b => b) (dVar 1) (dC (.bl false)))) (dRet (dOp (rdIsB fun b => b) (dVar 0) (dC (.bl false)))) dNext)
    (dSeq (dIfS (dTest (dCB (rdIsi A.ot) (dCons (dVar 1) (dCons (dC (.ty "int")) dNil)))) (dRet (dAndV (dCall (sp__law_is_integer A) (dCons (dVar 0) dNil)) (dOp rdEq (dVar 0) (dVar 1)))) dNext)
    (dSeq (dIfS (dTest (dCB (rdIsi A.ot) (dCons (dVar 1) (dCons (dC (.ty "str")) dNil)))) (dRet (dAndV (dCB (rdIsi A.ot) (dCons (dVar 0) (dCons (dC (.ty "str")) dNil))) (dOp rdEq (dVar 0) (dVar 1)))) dNext)
    (dSeq (dIfS (dOrT (dTest (dOp rdNe (dCB (rdIsi A.ot) (dCons (dVar 1) (dCons (dC (.ty "tuple")) dNil))) (dCB (rdIsi A.ot) (dCons (dVar 0) (dCons (dC (.ty "tuple")) dNil))))) (dTest (dOp rdNe (dCB (rdIsi A.ot) (dCons (dVar 1) (dCons (dC (.ty "list")) dNil))) (dCB (rdIsi A.ot) (dCons (dVar 0) (dCons (dC (.ty "list")) dNil)))))) (dRet (dC (.bl false))) dNext)
    (dSeq (dIfS (dTest (dOp rdNe (dCB rdLen (dCons (dVar 0) dNil)) (dCB rdLen (dCons (dVar 1) dNil)))) (dRet (dC (.bl false))) dNext)
    (dSeq (dFor (iZipD (dCons (dVar 0) (dCons (dVar 1) dNil))) (gT 2 (gConsD (gN 2) (gConsD (gN 3) gNilD))) (dIfS (dNotT (dTest (dCall sp_self (dCons (dVar 2) (dCons (dVar 3) dNil))))) (dRet (dC (.bl false))) dNext))
    (dRet (dC (.bl true)))))))))))
theorem rd__law_same (A : Ad) (n : Nat) : Rd (r__law_same A (sp__law_same A n)) 4 (sp__law_same A (n + 1)) := by
  rintro ds S Q X ⟨d, rfl, hp, q⟩
  have hk : known A S d := kn_pl (plainS_pl hp)
  unfold r__law_same
  cases d with
  | non =>
    simp_arith only [and_self]
    exact q
  | bl b =>
    cases b with
    | true =>
      simp_arith only [and_self]
      exact q
    | false =>
      simp_arith only [and_self]
      exact q
  | int i =>
    simp_arith only [and_self]
    refine isi_int hk ?_
    unfold isInt
    simp_arith only [and_self]
    exact ⟨_, rfl, hk, q⟩
  | str z =>
    simp_arith only [and_self]
    refine isi_int hk ?_
    unfold isInt isBl
    simp_arith only [and_self]
    rw [if_neg (by decide)]
    refine isi_str hk ?_
    unfold isStr
    simp_arith only [and_self]
    exact isi_str hk q
  | tup xs =>
    have hp : xs.length ≤ 1000 ∧ ∀ x ∈ xs, plainS n x := hp
    refine cut_seq (fun ρ T => T = S ∧ ρ = [some (.tup xs), some (.tup xs), none, none]) (fun N hN => ?_) (fun ρ T hM => ?_)
    · simp_arith only [and_self]
      exact hN _ _ ⟨rfl, rfl⟩
    obtain ⟨rfl, rfl⟩ := hM
    refine cut_seq (fun ρ S => S = T ∧ ρ = [some (.tup xs), some (.tup xs), none, none]) (fun N hN => ?_) (fun ρ S hM => ?_)
    · simp_arith only [and_self]
      exact hN _ _ ⟨rfl, rfl⟩
    obtain ⟨rfl, rfl⟩ := hM
    refine cut_seq (fun ρ T => T = S ∧ ρ = [some (.tup xs), some (.tup xs), none, none]) (fun N hN => ?_) (fun ρ T hM => ?_)
    · simp_arith only [and_self]
      exact hN _ _ ⟨rfl, rfl⟩
    obtain ⟨rfl, rfl⟩ := hM
    refine cut_seq (fun ρ S => S = T ∧ ρ = [some (.tup xs), some (.tup xs), none, none]) (fun N hN => ?_) (fun ρ S hM => ?_)
    · simp_arith only [and_self]
      refine isi_int hk ?_
      unfold isInt isBl
      simp_arith only [and_self]
      exact hN _ _ ⟨rfl, rfl⟩
    obtain ⟨rfl, rfl⟩ := hM
    refine cut_seq (fun ρ T => T = S ∧ ρ = [some (.tup xs), some (.tup xs), none, none]) (fun N hN => ?_) (fun ρ T hM => ?_)
    · simp_arith only [and_self]
      refine isi_str hk ?_
      unfold isStr
      simp_arith only [and_self]
      exact hN _ _ ⟨rfl, rfl⟩
    obtain ⟨rfl, rfl⟩ := hM
    refine cut_seq (fun ρ S => S = T ∧ ρ = [some (.tup xs), some (.tup xs), none, none]) (fun N hN => ?_) (fun ρ S hM => ?_)
    · simp_arith only [and_self]
      refine isi_tuple hk (isi_tuple hk ?_)
      simp_arith only [and_self]
      refine isi_list_t (isi_list_t ?_)
      simp_arith only [and_self]
      exact hN _ _ ⟨rfl, rfl⟩
    obtain ⟨rfl, rfl⟩ := hM
    refine cut_seq (fun ρ T => T = S ∧ ρ = [some (.tup xs), some (.tup xs), none, none]) (fun N hN => ?_) (fun ρ T hM => ?_)
    · simp_arith only [and_self]
      exact hN _ _ ⟨rfl, rfl⟩
    obtain ⟨rfl, rfl⟩ := hM
    unfold iZipD
    simp_arith only [and_self]
    refine for_go (fun j ρ S => S = T ∧ ∃ y2 y3, ρ = [some (.tup xs), some (.tup xs), y2, y3]) ⟨rfl, _, _, rfl⟩ (fun _ _ _ _ _ => trivial) (fun j z ρ S hz hw => ?_) fun ρ S hw => ?_
    · obtain ⟨rfl, y2, y3, rfl⟩ := hw
      obtain ⟨x, y, hx, hy, rfl⟩ := pairs_get hz
      rw [hx] at hy
      cases hy
      simp_arith only [and_self]
      have hx := hp.2 x (List.mem_of_getElem? hx)
      cases n with
      | zero => exact hx.elim
      | succ n =>
        refine ⟨x, rfl, hx, ?_⟩
        simp_arith only [and_self]
        rw [if_neg (by decide)]
        exact ⟨_, _, rfl⟩
    · obtain ⟨rfl, y2, y3, rfl⟩ := hw
      simp_arith only [and_self]
      exact q
  | _ => exact hp.elim
/-! ### the drawn rows, long and spoiled -/
theorem rep_list {z : Str} {k : Int} : (repStr z k).cps.toList = (List.replicate k.toNat z.cps.toList).flatten := by
  have go : ∀ (m : Nat) (acc : Array Nat), ((List.replicate m z.cps).foldl (· ++ ·) acc).toList = acc.toList ++ (List.replicate m z.cps.toList).flatten := fun m => by
    induction m with
    | zero => intro acc; simp
    | succ m ih =>
      intro acc
      rw [List.replicate_succ, List.foldl_cons, ih, List.replicate_succ, List.flatten_cons, Array.toList_append, List.append_assoc]
  unfold repStr
  rw [go]
  rfl
theorem flat_mem {α : Type} {l : List α} {k : Nat} {x : α} (h : x ∈ (List.replicate k l).flatten) : x ∈ l := by
  obtain ⟨m, hm, hx⟩ := List.mem_flatten.mp h
  rw [List.eq_of_mem_replicate hm] at hx
  exact hx
theorem flat_len {α : Type} {l : List α} {k : Nat} : (List.replicate k l).flatten.length = k * l.length := by simp
/-- so many signs of a row that is laid again and again -/
def longS (z : Str) (k m : Nat) : Str := ⟨((List.replicate k z.cps.toList).flatten.take m).toArray⟩
theorem long_is {z : Str} {k m : Nat} (h : z.cps.toList.all isSg = true) : (longS z k m).length = min m (k * z.length) ∧ (longS z k m).cps.toList.all isSg = true := by
  refine ⟨?_, ?_⟩
  · rw [len_cps]
    show ((List.replicate k z.cps.toList).flatten.take m).length = _
    rw [List.length_take, flat_len, len_cps]
  · show ((List.replicate k z.cps.toList).flatten.take m).all isSg = true
    exact List.all_eq_true.mpr fun c hc => List.all_eq_true.mp h c (flat_mem (List.mem_of_mem_take hc))
theorem cutS_cut {z : Str} {lo hi : Option Int} : cutS z lo hi = ⟨(VD.cutD z.cps.toList lo hi).toArray⟩ := by
  unfold cutS VD.cutD
  rw [len_cps]
theorem slS_long {z : Str} {k m : Nat} : cutS (repStr z (k : Int)) none (some (m : Int)) = longS z k m := by
  rw [cutS_cut, cut_take (by omega), rep_list, Int.toNat_natCast, Int.toNat_natCast]
  rfl
theorem rep_len {z : Str} {k : Nat} : (repStr z (k : Int)).length = k * z.length := by
  rw [len_cps, rep_list, flat_len, Int.toNat_natCast, len_cps]
def sp__law_large (A : Ad) : SpD := fun ds S Q _ => ∃ a, ds = [.ref a] ∧ IsH a S S ∧ ∀ zs n T, IsH a T T → Gr a S T → OkG zs n → Q (rowsD zs) T
theorem len__law_large (A : Ad) : ∀ ds S Q X, sp__law_large A ds S Q X → ds.length = 1 := by rintro _ _ _ _ ⟨_, rfl, _⟩; rfl
def r__law_large (A : Ad) : DS := (dSeq (dAsg (dCall (sp__law_ground A) (dCons (dVar 0) dNil)) (gN 1))
    (dSeq (dAsg (dCall (sp__law_take A) (dCons (dVar 0) (dCons (dC (.int 12)) dNil))) (gN 2))
    (dSeq (dIfS (dTest (dOp rdEq (dVar 2) (dC (.int 0)))) (dRet (dCB rdTuple (dCons (dFrz (dLc (iSeqD (dVar 1)) (gN 3) dYes (dSlV (dOp rdMulS (dVar 3) (dC (.int 40))) oNone (oSome (dC (.int 40)))) [3])) dNil))) dNext)
    (dSeq (dIfS (dTest (dOp rdEq (dVar 2) (dC (.int 1)))) (dRet (dSlV (dOp rdMulV (dVar 1) (dC (.int 30))) oNone (oSome (dC (.int 30))))) dNext)
    (dRet (dVar 1))))))
theorem rd__law_large (A : Ad) : Rd (r__law_large A) 4 (sp__law_large A) := by
  rintro ds S Q X ⟨a, rfl, hH, q⟩
  unfold r__law_large
  refine cut_seq (fun ρ T => ∃ zs n, OkG zs n ∧ n ≤ 12 ∧ zs.length ≤ 8 ∧ IsH a T T ∧ Gr a S T ∧ ρ = [some (.ref a), some (rowsD zs), none, none]) (fun N hN => ?_) (fun ρ T hM => ?_)
  · simp_arith only [and_self]
    exact ⟨a, rfl, hH, fun zs n T hT gT ok l1 l2 => hN _ _ ⟨zs, n, ok, l1, l2, hT, gT, rfl⟩⟩
  obtain ⟨zs, n, ok, l1, l2, hT, gT, rfl⟩ := hM
  refine cut_seq (fun ρ U => ∃ r : Int, IsH a U U ∧ Gr a S U ∧ ρ = [some (.ref a), some (rowsD zs), some (.int r), none]) (fun N hN => ?_) (fun ρ U hM => ?_)
  · simp_arith only [and_self]
    (refine tk hT (fun r T1 h1 g1 a1 b1 => ?_) (by first | decide | omega) (by first | decide | omega); try simp_arith only [and_self])
    exact hN _ _ ⟨r, h1, gT.trans g1, rfl⟩
  clear hT gT
  obtain ⟨r, hT, gT, rfl⟩ := hM
  simp_arith only [and_self]
  by_cases c0 : r = 0
  · rw [if_pos c0]
    unfold rowsD
    simp_arith only [and_self]
    have ln := ok.n1
    have ll := ok.l1
    have ok2 : OkG (zs.map fun z => longS z 40 40) 40 := ⟨by rw [List.length_map]; exact ok.l1, by rw [List.length_map]; exact ok.l2, by omega, by omega, fun z hz => by
      obtain ⟨y, hy, rfl⟩ := List.mem_map.mp hz
      obtain ⟨e1, e2⟩ := ok.each y hy
      obtain ⟨e3, e4⟩ := long_is (k := 40) (m := 40) e2
      exact ⟨by rw [e3, e1]; omega, e4⟩⟩
    refine lcV_pure (fun d => match d with | .str z => .str (longS z 40 40) | d => d) (by rw [List.length_map]; exact slK (by omega)) (fun _ _ _ => trivial) (fun x hx T2 Kq hs hq => ?_) ?_
    · obtain ⟨z, hz, rfl⟩ := List.mem_map.mp hx
      obtain ⟨e1, e2⟩ := ok.each z hz
      have ln2 := ok.n2
      simp_arith only [and_self]
      show (2 ≤ (40 : Int) ∧ (40 : Int) ≤ 1000 ∧ 0 < z.length ∧ z.length ≤ 1000) ∧ rdSlV (.str (repStr z 40)) none (some 40) T2 Kq
      refine ⟨⟨by decide, by decide, by omega, by omega⟩, ?_⟩
      show (repStr z 40).length ≤ sizeLine ∧ Kq (.str (cutS (repStr z 40) none (some 40))) T2
      rw [show (40 : Int) = ((40 : Nat) : Int) from rfl, rep_len, slS_long]
      exact ⟨slK (by omega), hq⟩
    · have e : (zs.map Dv.str).map (fun d => match d with | .str z => Dv.str (longS z 40 40) | d => d) = (zs.map fun z => longS z 40 40).map Dv.str := by rw [List.map_map, List.map_map]; rfl
      rw [e]
      exact tup_rol (q _ _ U hT gT ok2)
  · rw [if_neg c0]
    by_cases c1 : r = 1
    · rw [if_pos c1]
      unfold rowsD rdMulV
      simp_arith only [and_self]
      have ln := ok.n1
      have ll := ok.l1
      refine ⟨⟨by decide, by decide, by rw [List.length_map]; omega, .inl (by decide)⟩, ?_⟩
      rw [cut_take (by decide), show Int.toNat 30 = 30 from rfl]
      have e : ((List.replicate 30 (zs.map Dv.str)).flatten).take 30 = (((List.replicate 30 zs).flatten).take 30).map Dv.str := by rw [List.map_take, List.map_flatten, List.map_replicate]
      rw [e]
      refine q _ n U hT gT ⟨?_, ?_, ok.n1, ok.n2, fun z hz => ok.each z (flat_mem (List.mem_of_mem_take hz))⟩
      · rw [List.length_take, flat_len]
        omega
      · rw [List.length_take]
        omega
    · rw [if_neg c1]
      exact q zs n U hT gT ok
theorem app_len {a b : Str} : (a ++ b).length = a.length + b.length := by
  rw [TL.len_tl, TL.tl_append, List.length_append, ← TL.len_tl, ← TL.len_tl]
def sp__law_spoiled (A : Ad) : SpD := fun ds S Q _ => ∃ a zs n, ds = [.ref a, rowsD zs] ∧ IsH a S S ∧ OkG zs n ∧ ∀ d T, IsH a T T → Gr a S T → Odd A a T d → Q d T
theorem len__law_spoiled (A : Ad) : ∀ ds S Q X, sp__law_spoiled A ds S Q X → ds.length = 2 := by rintro _ _ _ _ ⟨_, _, _, rfl, _⟩; rfl
def r__law_spoiled (A : Ad) : DS := (dSeq (dAsg (dCall (sp__law_take A) (dCons (dVar 0) (dCons (dC (.int 16)) dNil))) (gN 2))
    (dSeq (dAsg (dCall (sp__law_take A) (dCons (dVar 0) (dCons (dCB rdLen (dCons (dVar 1) dNil)) dNil))) (gN 3))
    (dSeq (dAsg (dCall (sp__law_take A) (dCons (dVar 0) (dCons (dCB rdLen (dCons (dOp rdIx (dVar 1) (dVar 3)) dNil)) dNil))) (gN 4))
    (dSeq (dAsg (dOp rdIx (dVar 1) (dVar 3)) (gN 5))
    (dSeq (dIfS (dTest (dOp rdEq (dVar 2) (dC (.int 0)))) (dAsg (dOp rdAddV (dOp rdAddV (dSlV (dVar 5) oNone (oSome (dVar 4))) (dOp rdIx (dC (.str (Str.ofString " !/:;*-aZ~"))) (dCall (sp__law_take A) (dCons (dVar 0) (dCons (dC (.int 10)) dNil))))) (dSlV (dVar 5) (oSome (dOp rdAddV (dVar 4) (dC (.int 1)))) oNone)) (gN 5)) (dIfS (dTest (dOp rdEq (dVar 2) (dC (.int 1)))) (dAsg (dOp rdAddV (dSlV (dVar 5) oNone (oSome (dVar 4))) (dSlV (dVar 5) (oSome (dOp rdAddV (dVar 4) (dC (.int 1)))) oNone)) (gN 5)) (dIfS (dTest (dOp rdEq (dVar 2) (dC (.int 2)))) (dAsg (dOp rdAddV (dOp rdAddV (dSlV (dVar 5) oNone (oSome (dVar 4))) (dC (.str (Str.ofString ".")))) (dSlV (dVar 5) (oSome (dVar 4)) oNone)) (gN 5)) (dIfS (dTest (dOp rdEq (dVar 2) (dC (.int 3)))) (dAsg (dCall (sp__law_odd A) (dCons (dVar 0) dNil)) (gN 5)) (dIfS (dTest (dOp rdEq (dVar 2) (dC (.int 4)))) (dRet (dCB rdListV (dCons (dVar 1) dNil))) (dIfS (dTest (dOp rdEq (dVar 2) (dC (.int 5)))) (dRet (dSlV (dOp rdMulV (dVar 1) (dC (.int 31))) oNone (oSome (dOp rdAddV (dC (.int 30)) (dCall (sp__law_take A) (dCons (dVar 0) (dCons (dC (.int 2)) dNil))))))) (dIfS (dTest (dOp rdEq (dVar 2) (dC (.int 6)))) (dRet (dCB rdTuple (dCons (dFrz (dLc (iSeqD (dVar 1)) (gN 6) dYes (dSlV (dOp rdMulS (dVar 6) (dC (.int 41))) oNone (oSome (dOp rdAddV (dOp rdAddV (dC (.int 40)) (dOp rdMod (dVar 2) (dC (.int 2)))) (dOp rdMod (dVar 4) (dC (.int 2)))))) [6])) dNil))) (dIfS (dTest (dOp rdEq (dVar 2) (dC (.int 7)))) (dRet (dCall (sp__law_odd A) (dCons (dVar 0) dNil))) dNext))))))))
    (dRet (dOp rdAddV (dOp rdAddV (dSlV (dVar 1) oNone (oSome (dVar 3))) (dTup (dCons (dVar 5) dNil))) (dSlV (dVar 1) (oSome (dOp rdAddV (dVar 3) (dC (.int 1)))) oNone))))))))
theorem rd__law_spoiled (A : Ad) : Rd (r__law_spoiled A) 7 (sp__law_spoiled A) := by
  rintro ds S Q X ⟨a, zs, n, rfl, hH, ok, q⟩
  have n1 := ok.n1
  have n2 := ok.n2
  have l1 := ok.l1
  have l2 := ok.l2
  unfold r__law_spoiled
  refine cut_seq (fun ρ T => ∃ r : Int, IsH a T T ∧ Gr a S T ∧ ρ = [some (.ref a), some (rowsD zs), some (.int r), none, none, none, none]) (fun N hN => ?_) (fun ρ T hM => ?_)
  · simp_arith only [and_self]
    (refine tk hH (fun r T1 h1 g1 a1 b1 => ?_) (by first | decide | omega) (by first | decide | omega); try simp_arith only [and_self])
    exact hN _ _ ⟨r, h1, g1, rfl⟩
  obtain ⟨r, hT, gT, rfl⟩ := hM
  refine cut_seq (fun ρ U => ∃ i : Nat, i < zs.length ∧ IsH a U U ∧ Gr a S U ∧ ρ = [some (.ref a), some (rowsD zs), some (.int r), some (.int (i : Nat)), none, none, none]) (fun N hN => ?_) (fun ρ U hM => ?_)
  · unfold rowsD at hN ⊢
    simp_arith only [and_self]
    rw [List.length_map]
    refine tk hT (fun i T1 h1 g1 a1 b1 => ?_) (by omega) (by omega)
    obtain ⟨i, rfl⟩ := Int.eq_ofNat_of_zero_le a1
    exact hN _ _ ⟨i, by omega, h1, gT.trans g1, rfl⟩
  clear hT gT
  obtain ⟨i, hi, hT, gT, rfl⟩ := hM
  obtain ⟨z, hz⟩ : ∃ z, zs[i]? = some z := ⟨_, List.getElem?_eq_getElem hi⟩
  obtain ⟨ez, sz⟩ := ok.each z (List.mem_of_getElem? hz)
  have gz : atI (zs.map Dv.str) (i : Int) = some (.str z) := by rw [atI_nn (by omega), Int.toNat_natCast, List.getElem?_map, hz]; rfl
  refine cut_seq (fun ρ T => ∃ k : Nat, k < n ∧ IsH a T T ∧ Gr a S T ∧ ρ = [some (.ref a), some (rowsD zs), some (.int r), some (.int (i : Nat)), some (.int (k : Nat)), none, none]) (fun N hN => ?_) (fun ρ T hM => ?_)
  · unfold rowsD at hN ⊢
    simp_arith only [and_self]
    refine ⟨_, gz, ?_⟩
    simp_arith only [and_self]
    refine ⟨slK (by omega), ?_⟩
    refine tk hT (fun k T1 h1 g1 a1 b1 => ?_) (by omega) (by omega)
    obtain ⟨k, rfl⟩ := Int.eq_ofNat_of_zero_le a1
    exact hN _ _ ⟨k, by omega, h1, gT.trans g1, rfl⟩
  clear hT gT
  obtain ⟨k, hk, hT, gT, rfl⟩ := hM
  refine cut_seq (fun ρ U => U = T ∧ ρ = [some (.ref a), some (rowsD zs), some (.int r), some (.int (i : Nat)), some (.int (k : Nat)), some (.str z), none]) (fun N hN => ?_) (fun ρ U hM => ?_)
  · unfold rowsD at hN ⊢
    simp_arith only [and_self]
    exact ⟨_, gz, hN _ _ ⟨rfl, rfl⟩⟩
  obtain ⟨rfl, rfl⟩ := hM
  refine cut_seq (fun ρ T => ∃ o, Kn A a T o ∧ IsH a T T ∧ Gr a S T ∧ ∃ y6, ρ = [some (.ref a), some (rowsD zs), some (.int r), some (.int (i : Nat)), some (.int (k : Nat)), some o, y6]) (fun N hN => ?_) (fun ρ T hM => ?_)
  · have kz : ∀ {w : Str}, w.length ≤ 2000 → ∀ {y6 : Option Dv}, N [some (.ref a), some (rowsD zs), some (.int r), some (.int (i : Nat)), some (.int (k : Nat)), some (.str w), y6] U := fun {w} hw {y6} => hN _ _ ⟨_, kn_p rfl fun y e => (by cases e; exact hw), hT, gT, _, rfl⟩
    have l1 : ∀ lo hi, (cutS z lo hi).length ≤ 40 := fun lo hi => by
      have := cutS_length z lo hi
      omega
    simp_arith only [and_self]
    by_cases c0 : r = 0
    · rw [if_pos c0]
      refine ⟨slK (by omega), ?_⟩
      (refine tk hT (fun w T1 h1 g1 a1 b1 => ?_) (by first | decide | omega) (by first | decide | omega); try simp_arith only [and_self])
      refine ⟨slK (by decide +kernel), ?_⟩
      obtain ⟨c, hc⟩ : ∃ c, (Str.ofString " !/:;*-aZ~").cps.toList[w.toNat]? = some c := ⟨_, List.getElem?_eq_getElem (by rw [show (Str.ofString " !/:;*-aZ~").cps.toList.length = 10 by decide +kernel]; omega)⟩
      refine ⟨c, by rw [atI_nn a1]; exact hc, ?_⟩
      have e1 := l1 none (some (k : Int))
      have e2 := l1 (some ((k : Int) + 1)) none
      have e3 : (⟨#[c]⟩ : Str).length = 1 := rfl
      show _ ∧ _ ∧ _ ∧ _
      refine ⟨slK (by omega), slK (by omega), slK (by rw [app_len]; omega), ?_⟩
      exact hN _ _ ⟨_, kn_p rfl fun y e => (by cases e; rw [app_len, app_len]; omega), h1, gT.trans g1, _, rfl⟩
    rw [if_neg c0]
    by_cases c1 : r = 1
    · rw [if_pos c1]
      have e1 := l1 none (some (k : Int))
      have e2 := l1 (some ((k : Int) + 1)) none
      exact ⟨slK (by omega), slK (by omega), slK (by omega), kz (by rw [app_len]; omega)⟩
    rw [if_neg c1]
    by_cases c2 : r = 2
    · rw [if_pos c2]
      have e1 := l1 none (some (k : Int))
      have e2 := l1 (some (k : Int)) none
      have e3 : (Str.ofString ".").length = 1 := by decide +kernel
      exact ⟨slK (by omega), slK (by omega), slK (by omega), slK (by rw [app_len]; omega), kz (by rw [app_len, app_len]; omega)⟩
    rw [if_neg c2]
    by_cases c3 : r = 3
    · rw [if_pos c3]
      exact ⟨a, rfl, hT, fun d T h1 g1 hd => hN _ _ ⟨d, hd.k, h1, gT.trans g1, _, rfl⟩⟩
    rw [if_neg c3]
    by_cases c4 : r = 4
    · rw [if_pos c4]
      exact q _ U hT gT ⟨kn_p rfl fun w e => (by cases e), fun xs e => (by cases e)⟩
    rw [if_neg c4]
    by_cases c5 : r = 5
    · rw [if_pos c5]
      unfold rowsD rdMulV
      simp_arith only [and_self]
      refine ⟨⟨by decide, by decide, by rw [List.length_map]; omega, .inl (by decide)⟩, ?_⟩
      (refine tk hT (fun w T1 h1 g1 a1 b1 => ?_) (by first | decide | omega) (by first | decide | omega); try simp_arith only [and_self])
      rw [cut_take (by omega)]
      refine q _ T1 h1 (gT.trans g1) ⟨kn_p rfl fun w e => (by cases e), fun xs e x hx => ?_⟩
      cases e
      obtain ⟨y, hy, rfl⟩ := List.mem_map.mp (flat_mem (List.mem_of_mem_take hx))
      exact kn_p rfl fun w e => by cases e; rw [(ok.each y hy).1]; omega
    rw [if_neg c5]
    by_cases c6 : r = 6
    · rw [if_pos c6]
      subst c6
      unfold rowsD
      dsimp only
      have em : 0 ≤ (40 : Int) + 6 % 2 + (k : Int) % 2 := by omega
      refine lcV_pure (fun d => match d with | .str z => .str (cutS (repStr z 41) none (some (40 + 6 % 2 + (k : Int) % 2))) | d => d) (by rw [List.length_map]; exact slK (by omega)) (fun _ _ _ => trivial) (fun x hx T2 Kq hs hq => ?_) ?_
      · obtain ⟨y, hy, rfl⟩ := List.mem_map.mp hx
        have e1 := (ok.each y hy).1
        simp_arith only [and_self]
        show (2 ≤ (41 : Int) ∧ (41 : Int) ≤ 1000 ∧ 0 < y.length ∧ y.length ≤ 1000) ∧ _ ∧ _ ∧ (repStr y 41).length ≤ sizeLine ∧ Kq (.str (cutS (repStr y 41) none (some (40 + 6 % 2 + (k : Int) % 2)))) T2
        refine ⟨⟨by decide, by decide, by omega, by omega⟩, by decide, by decide, ?_, hq⟩
        rw [show (41 : Int) = ((41 : Nat) : Int) from rfl, rep_len]
        exact slK (by omega)
      · refine tup_rol (q _ U hT gT ⟨kn_p rfl fun w e => (by cases e), fun xs e x hx => ?_⟩)
        cases e
        obtain ⟨d, hd, rfl⟩ := List.mem_map.mp hx
        obtain ⟨y, hy, rfl⟩ := List.mem_map.mp hd
        have e1 := (ok.each y hy).1
        refine kn_p rfl fun w e => ?_
        cases e
        have := cutS_length (repStr y 41) none (some (40 + 6 % 2 + (k : Int) % 2))
        rw [show (41 : Int) = ((41 : Nat) : Int) from rfl, rep_len] at this
        exact Nat.le_trans this (by omega)
    rw [if_neg c6]
    by_cases c7 : r = 7
    · rw [if_pos c7]
      exact ⟨a, rfl, hT, fun d T h1 g1 hd => q d T h1 (gT.trans g1) hd⟩
    rw [if_neg c7]
    exact kz (by omega)
  obtain ⟨o, ko, hW, gW, y6, rfl⟩ := hM
  unfold rowsD
  simp_arith only [and_self]
  rw [cut_take (by omega), cut_drop (by omega), Int.toNat_natCast]
  have hm : ∀ x ∈ (zs.map Dv.str).take i ++ [o] ++ (zs.map Dv.str).drop ((i : Int) + 1).toNat, Kn A a T x := fun x hx => by
    have ks : ∀ x ∈ zs.map Dv.str, Kn A a T x := fun x hx => by
      obtain ⟨y, hy, rfl⟩ := List.mem_map.mp hx
      exact kn_p rfl fun w e => by cases e; rw [(ok.each y hy).1]; omega
    rcases List.mem_append.mp hx with hx | hx
    · rcases List.mem_append.mp hx with hx | hx
      · exact ks x (List.mem_of_mem_take hx)
      · rw [List.mem_singleton.mp hx]
        exact ko
    · exact ks x (List.mem_of_mem_drop hx)
  refine ⟨slK, by rw [List.length_take, List.length_map]; exact slK (by omega), by simp; exact slK (by omega), q _ T hW gW ⟨kn_p rfl fun w e => (by cases e), fun xs e x hx => by cases e; exact hm x hx⟩⟩
end Lw

--CLS Ground
namespace Lw
open PySem PySem.Spec PyProof.Rows L2 VD
local macro_rules
  | `(tactic| simp_arith only [$xs,*]) => `(tactic| simp only [dSeq, dAsg, dRet, dRetN, dDrop, dRaise, dBreak, dCont, dPar, dAug, dFor, dNext, dSetF, dAugF, dRaiseF, dIfS, dTest, dOp, dVar, dC, dCB, dCons, dNil, dCall, dAndV, dOrV, dNotV, dAndT, dOrT, dNotT, dIf, dTup, dLst, dLstV, dSl, dSlV, oSome, oNone, dNeg, gN, gT, gConsD, gNilD, gSubD, gFldD, dChain, dLc, dBM, isLst, iSeqD, iR1, iR2, iR3, dYes, isn_non, isn_bl, isn_int, isn_str, isn_ref, isn_tup, isn_rol, isn_obj, rdIx_tup, rdIx_rol, rdIx_put, rdSet, rdLen_tup, rdLen_rol, rdLen_str, rdLen_put, rdAppend, rdExt, rdPopAt, rdIsB, isBlV, rdStrI, rdIntS, dFrz, dFld, insOf_put, dMeth, lstOf_rol, lstOf_put, seqOf_tup, seqOf_rol, seqOf_put, frz_tup, frz_rol, frz_int, frz_bl, frz_non, frz_str, frz_obj, startN, wipeD, List.map_cons, List.map_nil, List.length_cons, List.length_nil, Nat.zero_add, Nat.sub_self, Nat.reduceAdd, Nat.reduceSub, List.replicate_succ, List.replicate_zero, List.cons_append, List.nil_append, List.append_nil, List.getElem?_cons_zero, List.getElem?_cons_succ, List.set_cons_zero, List.set_cons_succ, Option.some.injEq, exists_eq_left', atI_0, atI_1, atI_2, atI_3, atI_4, atI_5, atI_6, atI_7, ixN_50, ixN_51, ixN_52, ixN_53, ixN_54, ixN_30, ixN_31, ixN_32, put_same, put_put, true_and, and_true, decide_true, decide_false, Bool.not_true, Bool.not_false, Bool.false_eq_true, if_true, if_false, decide_eq_true_eq, Bool.not_eq_true', decide_eq_false_iff_not, mem_one, ex_one, and_self, xd_mk, qAdd_i, qAdd_t, qAdd_s, qAdd_l, qMul_i, qMul_t, qMul_l, qSub_i, qDiv_i, qMod_i, qPow_i, qIAdd_i, qEq_i, qEq_b, qEq_s, qCmp_i, qIsN, qSl_t, qSl_l, qSl_s, qInt_i, qInt_b, qInt1, qMax, qMin, qList_t, qList_l, i_Ground, l_Ground, h_Ground_eq, g_Ground_rows, p_Ground_rows, k_Ground_rows, g_Ground_wide, p_Ground_wide, k_Ground_wide, g_Ground_high, p_Ground_high, k_Ground_high, $xs,*])
/-- what the making of a ground tells -/
def madeD (d : Dv) : Dv := match badG d with
  | none => .tup [.str (Str.ofString "told"), d, .int (wideD d), .int (highD d)]
  | some i => .tup [.str (Str.ofString "BadGround"), .int i]
def sp__law_made (A : Ad) : SpD := fun ds S Q _ => ∃ d, ds = [d] ∧ kL A S d ∧ ∀ T, VD.Sub S T → Q (madeD d) T
theorem len__law_made (A : Ad) : ∀ ds S Q X, sp__law_made A ds S Q X → ds.length = 1 := by rintro _ _ _ _ ⟨_, rfl, _⟩; rfl
def r__law_made (A : Ad) : DS := (dTake (dSeq (dAsg (dCall (sp_Ground A) (dCons (dVar 0) dNil)) (gN 1))
    (dRet (dTup (dCons (dC (.str (Str.ofString "told"))) (dCons (dFld [A.Ground] (Str.ofString "rows") (dVar 1)) (dCons (dFld [A.Ground] (Str.ofString "wide") (dVar 1)) (dCons (dFld [A.Ground] (Str.ofString "high") (dVar 1)) dNil))))))) 2 [(.ref A.BadGround, true)] fun ea ecls eda => (dRet (dTup (dCons (dC (.str (Str.ofString "BadGround"))) (dCons (dXf ea ecls eda A.BadGround (Str.ofString "part") (dVar 2)) dNil)))))
theorem rd__law_made (A : Ad) : Rd (r__law_made A) 3 (sp__law_made A) := by
  rintro ds S Q X ⟨d, rfl, hk, q⟩
  unfold r__law_made dTake
  simp_arith only [and_self]
  refine ⟨d, rfl, hk, ?_⟩
  unfold madeD at q
  cases eb : badG d with
  | none =>
    rw [eb] at q
    intro x dx hx
    have e : put S x (gObj A dx d) x = some (.ins A.Ground dx (o_Ground d (.int (wideD d)) (.int (highD d)))) := put_same
    simp_arith only [insOf_ref e]
    exact ⟨slK, q _ (Sub.new hx)⟩
  | some i =>
    rw [eb] at q
    intro T hT dd hdd
    unfold exTake
    refine ⟨by simp, fun ea he => ?_⟩
    unfold dXf
    simp_arith only [and_self]
    exact ⟨dd, _, _, rfl, put_same, by rw [List.lookup_cons, beq_self_eq_true], slK, q _ fun b m e => (Sub.new hdd) b m (hT b m e)⟩
def sp__law_signed (A : Ad) : SpD := fun ds S Q _ => ∃ g x y zs n, ds = [.ref g, x, y] ∧ IsG A S g zs n ∧ known A S x ∧ known A S y ∧ Q (if (isInt x && isInt y) = true then .tup [.str (Str.ofString "told"), one (sgn zs n (ivl x) (ivl y))] else .tup [.str (Str.ofString "NoNumber")]) S
theorem len__law_signed (A : Ad) : ∀ ds S Q X, sp__law_signed A ds S Q X → ds.length = 3 := by rintro _ _ _ _ ⟨_, _, _, _, _, rfl, _⟩; rfl
def r__law_signed (A : Ad) : DS := (dTry (dRet (dTup (dCons (dC (.str (Str.ofString "told"))) (dCons (dCall (sp_sign_at A) (dCons (dVar 0) (dCons (dVar 1) (dCons (dVar 2) dNil)))) dNil)))) [([(.ref A.NoNumber, true)], (dRet (dTup (dCons (dC (.str (Str.ofString "NoNumber"))) dNil))))])
theorem rd__law_signed (A : Ad) : Rd (r__law_signed A) 3 (sp__law_signed A) := by
  rintro ds S Q X ⟨g, x, y, zs, n, rfl, hG, kx, ky, q⟩
  unfold r__law_signed dTry
  simp_arith only [and_self]
  refine ⟨g, x, y, zs, n, rfl, hG, kx, ky, ?_⟩
  cases e : (isInt x && isInt y) with
  | true =>
    rw [e, if_pos rfl] at q
    rw [if_pos rfl]
    exact ⟨slK, q⟩
  | false =>
    rw [e, if_neg (by decide)] at q
    rw [if_neg (by decide)]
    unfold wD
    simp_arith only [and_self]
    exact ⟨true, by simp, fun _ => ⟨slK, q⟩, fun z => by cases z⟩
def sp__law_opened (A : Ad) : SpD := fun ds S Q _ => ∃ g x y w h zs n, ds = [.ref g, x, y, w, h] ∧ IsG A S g zs n ∧ known A S x ∧ known A S y ∧ known A S w ∧ known A S h ∧
  if (isInt x && isInt y) = true then (if (within w 1 32 && within h 1 32) = true then ∀ b : Bool, (b = true ↔ Free zs n (ivl x) (ivl y) (ivl w) (ivl h)) → Q (.tup [.str (Str.ofString "told"), .bl b]) S else Q (.tup [.str (Str.ofString "NoNumber")]) S) else Q (.tup [.str (Str.ofString "NoNumber")]) S
theorem len__law_opened (A : Ad) : ∀ ds S Q X, sp__law_opened A ds S Q X → ds.length = 5 := by rintro _ _ _ _ ⟨_, _, _, _, _, _, _, rfl, _⟩; rfl
def r__law_opened (A : Ad) : DS := (dTry (dRet (dTup (dCons (dC (.str (Str.ofString "told"))) (dCons (dCall (sp_is_open A) (dCons (dVar 0) (dCons (dVar 1) (dCons (dVar 2) (dCons (dVar 3) (dCons (dVar 4) dNil)))))) dNil)))) [([(.ref A.NoNumber, true)], (dRet (dTup (dCons (dC (.str (Str.ofString "NoNumber"))) dNil))))])
theorem rd__law_opened (A : Ad) : Rd (r__law_opened A) 5 (sp__law_opened A) := by
  rintro ds S Q X ⟨g, x, y, w, h, zs, n, rfl, hG, kx, ky, kw, kh, q⟩
  unfold r__law_opened dTry
  simp_arith only [and_self]
  refine ⟨g, x, y, w, h, zs, n, rfl, hG, kx, ky, kw, kh, ?_⟩
  have no : Q (.tup [.str (Str.ofString "NoNumber")]) S → wD [([(Value.ref A.NoNumber, true)], dRet (dTup (dCons (dC (Dv.str (Str.ofString "NoNumber"))) dNil)))]
            { nx := fun x S' => Q Dv.non S', rt := Q, ex := fun c da x S' => X c da S' } (Value.ref A.NoNumber) none
            [some (Dv.ref g), some x, some y, some w, some h] S := fun q => by
    unfold wD
    simp_arith only [and_self]
    exact ⟨true, by simp, fun _ => ⟨slK, q⟩, fun z => by cases z⟩
  cases e : (isInt x && isInt y) with
  | false =>
    rw [e, if_neg (by decide)] at q
    rw [if_neg (by decide)]
    exact no q
  | true =>
    rw [e, if_pos rfl] at q
    rw [if_pos rfl]
    cases e2 : (within w 1 32 && within h 1 32) with
    | false =>
      rw [e2, if_neg (by decide)] at q
      rw [if_neg (by decide)]
      exact no q
    | true =>
      rw [e2, if_pos rfl] at q
      rw [if_pos rfl]
      exact fun b hb => ⟨slK, q b hb⟩
def sp__law_where (A : Ad) : SpD := fun ds S Q _ => ∃ a l, ds = [.ref a, .int l] ∧ IsH a S S ∧ 0 ≤ l ∧ l ≤ 1000 ∧ ∀ r T, IsH a T T → Gr a S T → Q (.int r) T
theorem len__law_where (A : Ad) : ∀ ds S Q X, sp__law_where A ds S Q X → ds.length = 2 := by rintro _ _ _ _ ⟨_, _, rfl, _⟩; rfl
def r__law_where (A : Ad) : DS := (dSeq (dAsg (dCall (sp__law_take A) (dCons (dVar 0) (dCons (dC (.int 8)) dNil))) (gN 2))
    (dSeq (dIfS (dTest (dOp rdEq (dVar 2) (dC (.int 0)))) (dRet (dOp rdMulV (dCall (sp__law_great A) (dCons (dVar 0) dNil)) (dOp rdSub (dC (.int 1)) (dOp rdMulV (dC (.int 2)) (dCall (sp__law_take A) (dCons (dVar 0) (dCons (dC (.int 2)) dNil))))))) dNext)
    (dSeq (dIfS (dTest (dOp rdEq (dVar 2) (dC (.int 1)))) (dRet (dCall (sp__law_pick A) (dCons (dVar 0) (dCons (dLstV (dCons (dNeg (dC (.int 1))) (dCons (dC (.int 0)) (dCons (dOp rdSub (dOp rdMulV (dC (.int 8)) (dVar 1)) (dC (.int 1))) (dCons (dOp rdMulV (dC (.int 8)) (dVar 1)) (dCons (dOp rdSub (dOp rdMulV (dC (.int 8)) (dVar 1)) (dC (.int 8))) dNil)))))) dNil)))) dNext)
    (dRet (dOp rdSub (dCall (sp__law_take A) (dCons (dVar 0) (dCons (dOp rdAddV (dOp rdMulV (dC (.int 8)) (dVar 1)) (dC (.int 6))) dNil))) (dC (.int 3)))))))
theorem rd__law_where (A : Ad) : Rd (r__law_where A) 3 (sp__law_where A) := by
  rintro ds S Q X ⟨a, l, rfl, hH, l0, l1, q⟩
  unfold r__law_where
  refine cut_seq (fun ρ T => ∃ r : Int, IsH a T T ∧ Gr a S T ∧ ρ = [some (.ref a), some (.int l), some (.int r)]) (fun N hN => ?_) (fun ρ T hM => ?_)
  · simp_arith only [and_self]
    (refine tk hH (fun r T1 h1 g1 a1 b1 => ?_) (by first | decide | omega) (by first | decide | omega); try simp_arith only [and_self])
    exact hN _ _ ⟨r, h1, g1, rfl⟩
  obtain ⟨r, hT, gT, rfl⟩ := hM
  simp_arith only [and_self]
  by_cases c0 : r = 0
  · rw [if_pos c0]
    refine ⟨a, rfl, hT, fun u T1 h1 g1 => ?_⟩
    (refine tk h1 (fun w T2 h2 g2 a2 b2 => ?_) (by first | decide | omega) (by first | decide | omega); try simp_arith only [and_self])
    exact ⟨mulok_l (by decide) (by decide), mulok_r (by omega) (by omega), q _ T2 h2 (gT.trans (g1.trans g2))⟩
  rw [if_neg c0]
  by_cases c1 : r = 1
  · rw [if_pos c1]
    refine ⟨mulok_l (by decide) (by decide), mulok_l (by decide) (by decide), mulok_l (by decide) (by decide), slK, a, T, _, rfl, hT, by simp, by simp, fun d T2 h2 hd => ?_⟩
    have : ∃ i, d = .int i := by
      simp only [List.mem_cons, List.not_mem_nil, or_false] at hd
      rcases hd with rfl | rfl | rfl | rfl | rfl <;> exact ⟨_, rfl⟩
    obtain ⟨i, rfl⟩ := this
    exact q i T2 h2.self (gT.trans (IsH.gr (B := T) h2))
  rw [if_neg c1]
  refine ⟨mulok_l (by decide) (by decide), ?_⟩
  refine tk hT (fun w T2 h2 g2 a2 b2 => ?_) (by omega) (by omega)
  exact q _ T2 h2 (gT.trans g2)
def sp__law_side (A : Ad) : SpD := fun ds S Q _ => ∃ a, ds = [.ref a] ∧ IsH a S S ∧ ∀ d T, IsH a T T → Gr a S T → plI d = true → Q d T
theorem len__law_side (A : Ad) : ∀ ds S Q X, sp__law_side A ds S Q X → ds.length = 1 := by rintro _ _ _ _ ⟨_, rfl, _⟩; rfl
def r__law_side (A : Ad) : DS := (dSeq (dIfS (dTest (dOp rdEq (dCall (sp__law_take A) (dCons (dVar 0) (dCons (dC (.int 5)) dNil))) (dC (.int 0)))) (dRet (dCall (sp__law_pick A) (dCons (dVar 0) (dCons (dLstV (dCons (dC (.int 1)) (dCons (dC (.int 32)) (dCons (dC (.int 33)) (dCons (dC (.int 0)) (dCons (dNeg (dC (.int 1))) (dCons (dC (.bl true)) (dCons (dC .non) (dCons (dC (.int 8)) (dCons (dC (.int 9)) dNil)))))))))) dNil)))) dNext)
    (dRet (dOp rdAddV (dC (.int 1)) (dCall (sp__law_take A) (dCons (dVar 0) (dCons (dC (.int 14)) dNil))))))
theorem rd__law_side (A : Ad) : Rd (r__law_side A) 1 (sp__law_side A) := by
  rintro ds S Q X ⟨a, rfl, hH, q⟩
  unfold r__law_side
  simp_arith only [and_self]
  (refine tk hH (fun r T1 h1 g1 a1 b1 => ?_) (by first | decide | omega) (by first | decide | omega); try simp_arith only [and_self])
  by_cases c0 : r = 0
  · rw [if_pos c0]
    refine ⟨slK, a, T1, _, rfl, h1, by simp, by simp, fun d T2 h2 hd => ?_⟩
    refine q d T2 h2.self (g1.trans (IsH.gr (B := T1) h2)) ?_
    have : ∀ d ∈ [Dv.int 1, Dv.int 32, Dv.int 33, Dv.int 0, Dv.int (-1), Dv.bl true, Dv.non, Dv.int 8, Dv.int 9], plI d = true := fun d hd => by
      simp only [List.mem_cons, List.not_mem_nil, or_false] at hd
      rcases hd with rfl | rfl | rfl | rfl | rfl | rfl | rfl | rfl | rfl <;> rfl
    exact this d hd
  · rw [if_neg c0]
    (refine tk h1 (fun w T2 h2 g2 a2 b2 => ?_) (by first | decide | omega) (by first | decide | omega); try simp_arith only [and_self])
    exact q _ T2 h2 (g1.trans g2) rfl
theorem IsG.mv {A : Ad} {a g : Addr} {S T : Sto} {zs : List Str} {n : Nat} (h : IsG A S g zs n) (k : Gr a S T) (ne : g ≠ a) : IsG A T g zs n := by
  obtain ⟨⟨dx, e⟩, ok⟩ := h
  exact ⟨⟨dx, k g _ ne e⟩, ok⟩
def NoN : Dv := .tup [.str (Str.ofString "NoNumber")]
def sp__law_asked (A : Ad) : SpD := fun ds S Q _ => ∃ a g zs n, ds = [.ref a, rowsD zs, .ref g] ∧ IsH a S S ∧ IsG A S g zs n ∧ g ≠ a ∧ ∀ T, IsH a T T → Gr a S T → Q (.bl true) T
theorem len__law_asked (A : Ad) : ∀ ds S Q X, sp__law_asked A ds S Q X → ds.length = 3 := by rintro _ _ _ _ ⟨_, _, _, _, rfl, _⟩; rfl
def r__law_asked (A : Ad) : DS := (dSeq (dAsg (dCall (sp__law_where A) (dCons (dVar 0) (dCons (dCB rdLen (dCons (dOp rdIx (dVar 1) (dC (.int 0))) dNil)) dNil))) (gN 3))
    (dSeq (dAsg (dCall (sp__law_where A) (dCons (dVar 0) (dCons (dCB rdLen (dCons (dVar 1) dNil)) dNil))) (gN 4))
    (dSeq (dAsg (dCall (sp__law_side A) (dCons (dVar 0) dNil)) (gN 5))
    (dSeq (dAsg (dCall (sp__law_side A) (dCons (dVar 0) dNil)) (gN 6))
    (dSeq (dIfS (dTest (dOp rdEq (dCall (sp__law_take A) (dCons (dVar 0) (dCons (dC (.int 6)) dNil))) (dC (.int 0)))) (dAsg (dCall (sp__law_odd A) (dCons (dVar 0) dNil)) (gN 3)) dNext)
    (dSeq (dIfS (dTest (dOp rdEq (dCall (sp__law_take A) (dCons (dVar 0) (dCons (dC (.int 6)) dNil))) (dC (.int 0)))) (dAsg (dCall (sp__law_odd A) (dCons (dVar 0) dNil)) (gN 4)) dNext)
    (dSeq (dAsg (dTup (dCons (dC (.str (Str.ofString "NoNumber"))) dNil)) (gN 7))
    (dSeq (dAsg (dTup (dCons (dC (.str (Str.ofString "NoNumber"))) dNil)) (gN 8))
    (dSeq (dIfS (dAndT (dTest (dCall (sp__law_is_integer A) (dCons (dVar 3) dNil))) (dTest (dCall (sp__law_is_integer A) (dCons (dVar 4) dNil)))) (dSeq (dAsg (dTup (dCons (dC (.str (Str.ofString "told"))) (dCons (dCall (sp__law_sign A) (dCons (dVar 1) (dCons (dVar 3) (dCons (dVar 4) dNil)))) dNil))) (gN 7))
    (dIfS (dAndT (dTest (dCall (sp__law_is_within A) (dCons (dVar 5) (dCons (dC (.int 1)) (dCons (dC (.int 32)) dNil))))) (dTest (dCall (sp__law_is_within A) (dCons (dVar 6) (dCons (dC (.int 1)) (dCons (dC (.int 32)) dNil)))))) (dAsg (dTup (dCons (dC (.str (Str.ofString "told"))) (dCons (dCall (sp__law_units_open A) (dCons (dVar 1) (dCons (dVar 3) (dCons (dVar 4) (dCons (dVar 5) (dCons (dVar 6) dNil)))))) dNil))) (gN 8)) dNext)) dNext)
    (dSeq (dIfS (dNotT (dTest (dCall (sp__law_same A 3) (dCons (dCall (sp__law_signed A) (dCons (dVar 2) (dCons (dVar 3) (dCons (dVar 4) dNil)))) (dCons (dVar 7) dNil))))) (dRet (dC (.bl false))) dNext)
    (dRet (dCall (sp__law_same A 3) (dCons (dCall (sp__law_opened A) (dCons (dVar 2) (dCons (dVar 3) (dCons (dVar 4) (dCons (dVar 5) (dCons (dVar 6) dNil)))))) (dCons (dVar 8) dNil))))))))))))))
theorem rd__law_asked (A : Ad) : Rd (r__law_asked A) 9 (sp__law_asked A) := by
  rintro ds S Q X ⟨a, g, zs, n, rfl, hH, hG, ne, q⟩
  have ok := hG.ok
  obtain ⟨z0, hz0, lz0, _⟩ := ok.head
  have n1 := ok.n1
  have n2 := ok.n2
  have l1 := ok.l1
  have l2 := ok.l2
  unfold r__law_asked
  refine cut_seq (fun ρ T => ∃ x : Int, IsH a T T ∧ Gr a S T ∧ ρ = [some (.ref a), some (rowsD zs), some (.ref g), some (.int x), none, none, none, none, none]) (fun N hN => ?_) (fun ρ T hM => ?_)
  · unfold rowsD at hN ⊢
    simp_arith only [and_self]
    refine ⟨_, by rw [List.getElem?_map, hz0]; rfl, ?_⟩
    simp_arith only [and_self]
    exact ⟨slK (by omega), a, _, rfl, hH, by omega, by omega, fun r T hT gT => hN _ _ ⟨r, hT, gT, rfl⟩⟩
  obtain ⟨x, hT, gT, rfl⟩ := hM
  refine cut_seq (fun ρ U => ∃ y : Int, IsH a U U ∧ Gr a S U ∧ ρ = [some (.ref a), some (rowsD zs), some (.ref g), some (.int x), some (.int y), none, none, none, none]) (fun N hN => ?_) (fun ρ U hM => ?_)
  · unfold rowsD at hN ⊢
    simp_arith only [and_self]
    rw [List.length_map]
    exact ⟨a, _, rfl, hT, by omega, by omega, fun r T1 h1 g1 => hN _ _ ⟨r, h1, gT.trans g1, rfl⟩⟩
  clear hT gT
  obtain ⟨y, hT, gT, rfl⟩ := hM
  refine cut_seq (fun ρ T => ∃ w, plI w = true ∧ IsH a T T ∧ Gr a S T ∧ ρ = [some (.ref a), some (rowsD zs), some (.ref g), some (.int x), some (.int y), some w, none, none, none]) (fun N hN => ?_) (fun ρ T hM => ?_)
  · simp_arith only [and_self]
    exact ⟨a, rfl, hT, fun d T1 h1 g1 hd => hN _ _ ⟨d, hd, h1, gT.trans g1, rfl⟩⟩
  clear hT gT
  obtain ⟨w, hw, hT, gT, rfl⟩ := hM
  refine cut_seq (fun ρ U => ∃ h, plI h = true ∧ IsH a U U ∧ Gr a S U ∧ ρ = [some (.ref a), some (rowsD zs), some (.ref g), some (.int x), some (.int y), some w, some h, none, none]) (fun N hN => ?_) (fun ρ U hM => ?_)
  · simp_arith only [and_self]
    exact ⟨a, rfl, hT, fun d T1 h1 g1 hd => hN _ _ ⟨d, hd, h1, gT.trans g1, rfl⟩⟩
  clear hT gT
  obtain ⟨h, hh, hT, gT, rfl⟩ := hM
  refine cut_seq (fun ρ T => ∃ xd, Odd A a T xd ∧ IsH a T T ∧ Gr a S T ∧ ρ = [some (.ref a), some (rowsD zs), some (.ref g), some xd, some (.int y), some w, some h, none, none]) (fun N hN => ?_) (fun ρ T hM => ?_)
  · simp_arith only [and_self]
    (refine tk hT (fun r T1 h1 g1 a1 b1 => ?_) (by first | decide | omega) (by first | decide | omega); try simp_arith only [and_self])
    by_cases c : r = 0
    · rw [if_pos c]
      exact ⟨a, rfl, h1, fun d T2 h2 g2 hd => hN _ _ ⟨d, hd, h2, gT.trans (g1.trans g2), rfl⟩⟩
    · rw [if_neg c]
      exact hN _ _ ⟨.int x, odd_p rfl, h1, gT.trans g1, rfl⟩
  clear hT gT
  obtain ⟨xd, hx, hT, gT, rfl⟩ := hM
  refine cut_seq (fun ρ U => ∃ yd, Odd A a U xd ∧ Odd A a U yd ∧ IsH a U U ∧ Gr a S U ∧ ρ = [some (.ref a), some (rowsD zs), some (.ref g), some xd, some yd, some w, some h, none, none]) (fun N hN => ?_) (fun ρ U hM => ?_)
  · simp_arith only [and_self]
    (refine tk hT (fun r T1 h1 g1 a1 b1 => ?_) (by first | decide | omega) (by first | decide | omega); try simp_arith only [and_self])
    by_cases c : r = 0
    · rw [if_pos c]
      exact ⟨a, rfl, h1, fun d T2 h2 g2 hd => hN _ _ ⟨d, hx.mv (g1.trans g2), hd, h2, gT.trans (g1.trans g2), rfl⟩⟩
    · rw [if_neg c]
      exact hN _ _ ⟨.int y, hx.mv g1, odd_p rfl, h1, gT.trans g1, rfl⟩
  clear hT gT hx
  obtain ⟨yd, hx, hy, hT, gT, rfl⟩ := hM
  have kw : known A U w := (kn_i (A := A) (a := a) (T := U) hw).k
  have kh : known A U h := (kn_i (A := A) (a := a) (T := U) hh).k
  refine cut_seq (fun ρ T => T = U ∧ ρ = [some (.ref a), some (rowsD zs), some (.ref g), some xd, some yd, some w, some h, some NoN, none]) (fun N hN => ?_) (fun ρ T hM => ?_)
  · simp_arith only [and_self]
    exact ⟨slK, hN _ _ ⟨rfl, rfl⟩⟩
  obtain ⟨rfl, rfl⟩ := hM
  refine cut_seq (fun ρ U => U = T ∧ ρ = [some (.ref a), some (rowsD zs), some (.ref g), some xd, some yd, some w, some h, some NoN, some NoN]) (fun N hN => ?_) (fun ρ U hM => ?_)
  · simp_arith only [and_self]
    exact ⟨slK, hN _ _ ⟨rfl, rfl⟩⟩
  obtain ⟨rfl, rfl⟩ := hM
  have hg := hG.mv gT ne
  refine cut_seq (fun ρ T => T = U ∧ ∃ od, (if (isInt xd && isInt yd) = true then (if (within w 1 32 && within h 1 32) = true then ∃ b : Bool, (b = true ↔ Free zs n (ivl xd) (ivl yd) (ivl w) (ivl h)) ∧ od = .tup [.str (Str.ofString "told"), .bl b] else od = NoN) else od = NoN) ∧
    ρ = [some (.ref a), some (rowsD zs), some (.ref g), some xd, some yd, some w, some h, some (if (isInt xd && isInt yd) = true then .tup [.str (Str.ofString "told"), one (sgn zs n (ivl xd) (ivl yd))] else NoN), some od]) (fun N hN => ?_) (fun ρ T hM => ?_)
  · simp_arith only [and_self]
    refine ⟨xd, rfl, hx.k.k, ?_⟩
    have nn : (isInt xd && isInt yd) = false → N [some (.ref a), some (rowsD zs), some (.ref g), some xd, some yd, some w, some h, some NoN, some NoN] U := fun e => by
      simp only [e, Bool.false_eq_true, if_false] at hN
      exact hN _ _ ⟨rfl, NoN, rfl, rfl⟩
    cases ex : isInt xd with
    | false =>
      dsimp only
      rw [if_neg (by decide)]
      exact nn (by rw [ex]; rfl)
    | true =>
    dsimp only
    rw [if_pos rfl]
    refine ⟨yd, rfl, hy.k.k, ?_⟩
    cases ey : isInt yd with
    | false =>
      dsimp only
      rw [if_neg (by decide)]
      exact nn (by rw [ey, Bool.and_false])
    | true =>
    dsimp only
    rw [if_pos rfl]
    have exy : (isInt xd && isInt yd) = true := by rw [ex, ey]; rfl
    simp only [exy, if_true] at hN
    obtain ⟨i, rfl⟩ : ∃ i, xd = .int i := by
      cases xd <;> first | exact ⟨_, rfl⟩ | cases ex
    obtain ⟨j, rfl⟩ : ∃ i, yd = .int i := by
      cases yd <;> first | exact ⟨_, rfl⟩ | cases ey
    refine ⟨zs, n, i, j, rfl, ok, slK, w, 1, 32, rfl, kw, ?_⟩
    have nn2 : (within w 1 32 && within h 1 32) = false → N [some (.ref a), some (rowsD zs), some (.ref g), some (.int i), some (.int j), some w, some h, some (.tup [.str (Str.ofString "told"), one (sgn zs n i j)]), some NoN] U := fun e => by
      simp only [e, Bool.false_eq_true, if_false] at hN
      exact hN _ _ ⟨rfl, NoN, rfl, rfl⟩
    cases ew : within w 1 32 with
    | false =>
      dsimp only
      rw [if_neg (by decide)]
      exact nn2 (by rw [ew]; rfl)
    | true =>
    dsimp only
    rw [if_pos rfl]
    refine ⟨h, 1, 32, rfl, kh, ?_⟩
    cases eh : within h 1 32 with
    | false =>
      dsimp only
      rw [if_neg (by decide)]
      exact nn2 (by rw [ew, eh]; rfl)
    | true =>
    dsimp only
    rw [if_pos rfl]
    have ewh : (within w 1 32 && within h 1 32) = true := by rw [ew, eh]; rfl
    simp only [ewh, if_true] at hN
    obtain ⟨wi, rfl, _, _⟩ := within_i.mp ew
    obtain ⟨hi, rfl, _, _⟩ := within_i.mp eh
    exact ⟨zs, n, i, j, wi, hi, rfl, ok, fun b hb => ⟨slK, hN _ _ ⟨rfl, _, ⟨b, hb, rfl⟩, rfl⟩⟩⟩
  obtain ⟨rfl, od, hod, rfl⟩ := hM
  refine cut_seq (fun ρ U => U = T ∧ ρ = [some (.ref a), some (rowsD zs), some (.ref g), some xd, some yd, some w, some h, some (if (isInt xd && isInt yd) = true then .tup [.str (Str.ofString "told"), one (sgn zs n (ivl xd) (ivl yd))] else NoN), some od]) (fun N hN => ?_) (fun ρ U hM => ?_)
  · simp_arith only [and_self]
    refine ⟨g, xd, yd, zs, n, rfl, hg, hx.k.k, hy.k.k, ?_⟩
    refine ⟨_, rfl, ?_, ?_⟩
    · cases (isInt xd && isInt yd) with
      | true => exact ⟨by simp, fun d hd => by
          simp only [List.mem_cons, List.not_mem_nil, or_false] at hd
          rcases hd with rfl | rfl <;> trivial⟩
      | false => exact ⟨by decide, fun d hd => by
          simp only [List.mem_cons, List.not_mem_nil, or_false] at hd
          subst hd
          trivial⟩
    · dsimp only
      rw [if_neg (by decide)]
      exact hN _ _ ⟨rfl, rfl⟩
  obtain ⟨rfl, rfl⟩ := hM
  simp_arith only [and_self]
  refine ⟨g, xd, yd, w, h, zs, n, rfl, hg, hx.k.k, hy.k.k, kw, kh, ?_⟩
  have two : ∀ (z : Str) (d : Dv), (∃ b, d = .bl b) → plainS 3 (.tup [.str z, d]) := fun z d ⟨b, e⟩ => ⟨by simp, fun y hy => by
    simp only [List.mem_cons, List.not_mem_nil, or_false] at hy
    rcases hy with rfl | rfl
    · trivial
    · rw [e]; trivial⟩
  have fin : od = NoN → sp__law_same A 3 [NoN, od] U Q X := fun e => ⟨NoN, by rw [e], ⟨by decide, fun d hd => by
          simp only [List.mem_cons, List.not_mem_nil, or_false] at hd
          subst hd
          trivial⟩, q U hT gT⟩
  cases exy : (isInt xd && isInt yd) with
  | false =>
    rw [exy, if_neg (by decide)] at hod
    rw [if_neg (by decide)]
    exact fin hod
  | true =>
    rw [exy, if_pos rfl] at hod
    rw [if_pos rfl]
    cases ewh : (within w 1 32 && within h 1 32) with
    | false =>
      rw [ewh, if_neg (by decide)] at hod
      rw [if_neg (by decide)]
      exact fin hod
    | true =>
      rw [ewh, if_pos rfl] at hod
      rw [if_pos rfl]
      obtain ⟨b, hb, rfl⟩ := hod
      intro b2 hb2
      rw [show b2 = b from Bool.eq_iff_iff.mpr (hb2.trans hb.symm)]
      exact ⟨_, rfl, two _ _ ⟨b, rfl⟩, q U hT gT⟩
end Lw

--CLS Ground
namespace Lw
open PySem PySem.Spec PyProof.Rows L2 VD
local macro_rules
  | `(tactic| simp_arith only [$xs,*]) => `(tactic| simp only [dSeq, dAsg, dRet, dRetN, dDrop, dRaise, dBreak, dCont, dPar, dAug, dFor, dNext, dSetF, dAugF, dRaiseF, dIfS, dTest, dOp, dVar, dC, dCB, dCons, dNil, dCall, dAndV, dOrV, dNotV, dAndT, dOrT, dNotT, dIf, dTup, dLst, dLstV, dSl, dSlV, oSome, oNone, dNeg, gN, gT, gConsD, gNilD, gSubD, gFldD, dChain, dLc, dBM, isLst, iSeqD, iR1, iR2, iR3, dYes, isn_non, isn_bl, isn_int, isn_str, isn_ref, isn_tup, isn_rol, isn_obj, rdIx_tup, rdIx_rol, rdIx_put, rdSet, rdLen_tup, rdLen_rol, rdLen_str, rdLen_put, rdAppend, rdExt, rdPopAt, rdIsB, isBlV, rdStrI, rdIntS, dFrz, dFld, insOf_put, dMeth, lstOf_rol, lstOf_put, seqOf_tup, seqOf_rol, seqOf_put, frz_tup, frz_rol, frz_int, frz_bl, frz_non, frz_str, frz_obj, startN, wipeD, List.map_cons, List.map_nil, List.length_cons, List.length_nil, Nat.zero_add, Nat.sub_self, Nat.reduceAdd, Nat.reduceSub, List.replicate_succ, List.replicate_zero, List.cons_append, List.nil_append, List.append_nil, List.getElem?_cons_zero, List.getElem?_cons_succ, List.set_cons_zero, List.set_cons_succ, Option.some.injEq, exists_eq_left', atI_0, atI_1, atI_2, atI_3, atI_4, atI_5, atI_6, atI_7, ixN_50, ixN_51, ixN_52, ixN_53, ixN_54, ixN_30, ixN_31, ixN_32, put_same, put_put, true_and, and_true, decide_true, decide_false, Bool.not_true, Bool.not_false, Bool.false_eq_true, if_true, if_false, decide_eq_true_eq, Bool.not_eq_true', decide_eq_false_iff_not, mem_one, ex_one, and_self, xd_mk, qAdd_i, qAdd_t, qAdd_s, qAdd_l, qMul_i, qMul_t, qMul_l, qSub_i, qDiv_i, qMod_i, qPow_i, qIAdd_i, qEq_i, qEq_b, qEq_s, qCmp_i, qIsN, qSl_t, qSl_l, qSl_s, qInt_i, qInt_b, qInt1, qMax, qMin, qList_t, qList_l, i_Ground, l_Ground, h_Ground_eq, g_Ground_rows, p_Ground_rows, k_Ground_rows, g_Ground_wide, p_Ground_wide, k_Ground_wide, g_Ground_high, p_Ground_high, k_Ground_high, $xs,*])
theorem plain_rows {zs : List Str} {n : Nat} (ok : OkG zs n) : plainS 2 (rowsD zs) := ⟨by rw [List.length_map]; have := ok.l2; omega, fun d hd => by
  obtain ⟨y, _, rfl⟩ := List.mem_map.mp hd
  trivial⟩
theorem plain_made (d : Dv) : plainS 3 (madeD d) := by
  unfold madeD
  cases eb : badG d with
  | some i => exact ⟨by simp, fun x hx => by
      simp only [List.mem_cons, List.not_mem_nil, or_false] at hx
      rcases hx with rfl | rfl <;> trivial⟩
  | none =>
    obtain ⟨zs, n, ok, rfl⟩ := badG_none eb
    exact ⟨by simp, fun x hx => by
      simp only [List.mem_cons, List.not_mem_nil, or_false] at hx
      rcases hx with rfl | rfl | rfl | rfl
      · trivial
      · exact plain_rows ok
      · trivial
      · trivial⟩
theorem kL_rows {A : Ad} {S : Sto} {zs : List Str} {n : Nat} (ok : OkG zs n) : kL A S (rowsD zs) := ⟨kn_tup, fun xs e x hx => by
  cases e
  obtain ⟨y, hy, rfl⟩ := List.mem_map.mp hx
  exact ⟨kn_str, fun z e => by cases e; rw [(ok.each y hy).1]; have := ok.n2; omega⟩⟩
/-- == of two grounds -/
theorem own_eq {A : Ad} {S : Sto} {g h : Addr} {zs ys : List Str} {n m : Nat} {Q : QD} (hg : IsG A S g zs n) (hh : IsG A S h ys m) (q : Q (.bl (decide (zs = ys))) S) : rdOwn A.Ground (sp_Ground_eq A) (.ref g) (.ref h) S Q := by
  obtain ⟨dx, e1⟩ := hg.at_
  obtain ⟨dy, e2⟩ := hh.at_
  unfold rdOwn
  rw [insOf_ref e1]
  refine ⟨rfl, ?_⟩
  rw [insOf_ref e2]
  exact ⟨rfl, g, h, zs, n, ys, m, rfl, hg, hh, ⟨_, rfl⟩, q⟩
def r_law (A : Ad) : DS := (dSeq (dAsg (dCall (sp__law_hand A) (dCons (dVar 0) dNil)) (gN 1))
    (dSeq (dAsg (dCall (sp__law_large A) (dCons (dVar 1) dNil)) (gN 2))
    (dSeq (dAsg (dCall (sp__law_spoiled A) (dCons (dVar 1) (dCons (dVar 2) dNil))) (gN 3))
    (dSeq (dAsg (dCall (sp__law_first_bad A) (dCons (dVar 3) dNil)) (gN 4))
    (dSeq (dAsg (dTup (dCons (dC (.str (Str.ofString "BadGround"))) (dCons (dVar 4) dNil))) (gN 5))
    (dSeq (dIfS (dTest (dOp (rdIsN fun b => b) (dVar 4) (dC .non))) (dAsg (dTup (dCons (dC (.str (Str.ofString "told"))) (dCons (dVar 3) (dCons (dOp rdMulV (dC (.int 8)) (dCB rdLen (dCons (dOp rdIx (dVar 3) (dC (.int 0))) dNil))) (dCons (dOp rdMulV (dC (.int 8)) (dCB rdLen (dCons (dVar 3) dNil))) dNil))))) (gN 5)) dNext)
    (dSeq (dIfS (dNotT (dTest (dCall (sp__law_same A 3) (dCons (dCall (sp__law_made A) (dCons (dVar 3) dNil)) (dCons (dVar 5) dNil))))) (dRet (dC (.bl false))) dNext)
    (dSeq (dIfS (dNotT (dTest (dCall (sp__law_same A 3) (dCons (dCall (sp__law_made A) (dCons (dVar 2) dNil)) (dCons (dTup (dCons (dC (.str (Str.ofString "told"))) (dCons (dVar 2) (dCons (dOp rdMulV (dC (.int 8)) (dCB rdLen (dCons (dOp rdIx (dVar 2) (dC (.int 0))) dNil))) (dCons (dOp rdMulV (dC (.int 8)) (dCB rdLen (dCons (dVar 2) dNil))) dNil))))) dNil))))) (dRet (dC (.bl false))) dNext)
    (dSeq (dAsg (dCall (sp_Ground A) (dCons (dVar 2) dNil)) (gN 6))
    (dSeq (dFor (iR1 (dCons (dC (.int 5)) dNil)) (gN 7) (dIfS (dNotT (dTest (dCall (sp__law_asked A) (dCons (dVar 1) (dCons (dVar 2) (dCons (dVar 6) dNil)))))) (dRet (dC (.bl false))) dNext))
    (dSeq (dIfS (dAndT (dTest (dOp (rdIsN fun b => b) (dVar 4) (dC .non))) (dTest (dOp rdNe (dOp (rdOwn A.Ground (sp_Ground_eq A)) (dCall (sp_Ground A) (dCons (dVar 3) dNil)) (dVar 6)) (dOp rdEq (dVar 3) (dVar 2))))) (dRet (dC (.bl false))) dNext)
    (dRet (dOp (rdOwn A.Ground (sp_Ground_eq A)) (dCall (sp_Ground A) (dCons (dVar 2) dNil)) (dVar 6))))))))))))))
theorem rd_law (A : Ad) : Rd (r_law A) 8 spLaw := by
  rintro ds S Q X ⟨script, rfl, hl, rfl, q⟩
  unfold r_law
  refine cut_seq (fun ρ T => ∃ a, IsH a T T ∧ ρ = [some (.rol (List.map Dv.int script)), some (.ref a), none, none, none, none, none, none]) (fun N hN => ?_) (fun ρ T hM => ?_)
  · simp_arith only [and_self]
    exact ⟨script, rfl, hl, fun a T _ hH => hN _ _ ⟨a, hH.self, rfl⟩⟩
  obtain ⟨a, hT, rfl⟩ := hM
  refine cut_seq (fun ρ U => ∃ zs n, OkG zs n ∧ IsH a U U ∧ ρ = [some (.rol (List.map Dv.int script)), some (.ref a), some (rowsD zs), none, none, none, none, none]) (fun N hN => ?_) (fun ρ U hM => ?_)
  · simp_arith only [and_self]
    exact ⟨a, rfl, hT, fun zs n U hU _ ok => hN _ _ ⟨zs, n, ok, hU, rfl⟩⟩
  clear hT
  obtain ⟨zs, n, ok, hT, rfl⟩ := hM
  refine cut_seq (fun ρ T => ∃ d, Odd A a T d ∧ IsH a T T ∧ ρ = [some (.rol (List.map Dv.int script)), some (.ref a), some (rowsD zs), some d, none, none, none, none]) (fun N hN => ?_) (fun ρ T hM => ?_)
  · simp_arith only [and_self]
    exact ⟨a, zs, n, rfl, hT, ok, fun d U hU _ hd => hN _ _ ⟨d, hd, hU, rfl⟩⟩
  clear hT
  obtain ⟨d, hd, hT, rfl⟩ := hM
  refine cut_seq (fun ρ U => U = T ∧ ρ = [some (.rol (List.map Dv.int script)), some (.ref a), some (rowsD zs), some d, some (badD d), none, none, none]) (fun N hN => ?_) (fun ρ U hM => ?_)
  · simp_arith only [and_self]
    exact ⟨d, rfl, hd.l, hN _ _ ⟨rfl, rfl⟩⟩
  obtain ⟨rfl, rfl⟩ := hM
  refine cut_seq (fun ρ T => T = U ∧ ρ = [some (.rol (List.map Dv.int script)), some (.ref a), some (rowsD zs), some d, some (badD d), some (.tup [.str (Str.ofString "BadGround"), badD d]), none, none]) (fun N hN => ?_) (fun ρ T hM => ?_)
  · simp_arith only [and_self]
    exact ⟨slK, hN _ _ ⟨rfl, rfl⟩⟩
  obtain ⟨rfl, rfl⟩ := hM
  refine cut_seq (fun ρ U => U = T ∧ ρ = [some (.rol (List.map Dv.int script)), some (.ref a), some (rowsD zs), some d, some (badD d), some (madeD d), none, none]) (fun N hN => ?_) (fun ρ U hM => ?_)
  · unfold madeD at hN
    unfold badD at hN ⊢
    cases eb : badG d with
    | some i =>
      simp only [eb] at hN
      simp_arith only [and_self]
      exact hN _ _ ⟨rfl, rfl⟩
    | none =>
      simp only [eb] at hN
      obtain ⟨ys, m, ok2, rfl⟩ := badG_none eb
      obtain ⟨z, hz, lz, _⟩ := ok2.head
      rw [ok2.wide.1, ok2.wide.2] at hN
      have m2 := ok2.n2
      unfold rowsD at hN ⊢
      simp_arith only [and_self]
      refine ⟨_, by rw [List.getElem?_map, hz]; rfl, ?_⟩
      simp_arith only [and_self]
      rw [List.length_map, lz]
      exact ⟨slK (by omega), mulok_l (by decide) (by decide), mulok_l (by decide) (by decide), slK, hN _ _ ⟨rfl, rfl⟩⟩
  obtain ⟨rfl, rfl⟩ := hM
  refine cut_seq (fun ρ T => IsH a T T ∧ Odd A a T d ∧ ρ = [some (.rol (List.map Dv.int script)), some (.ref a), some (rowsD zs), some d, some (badD d), some (madeD d), none, none]) (fun N hN => ?_) (fun ρ T hM => ?_)
  · simp_arith only [and_self]
    refine ⟨d, rfl, hd.l, fun T hs => ?_⟩
    refine ⟨_, rfl, plain_made d, ?_⟩
    simp_arith only [and_self]
    rw [if_neg (by decide)]
    exact hN _ _ ⟨hT.subH hs, hd.mv (Gr.of_sub hs), rfl⟩
  clear hT hd
  obtain ⟨hT, hd, rfl⟩ := hM
  refine cut_seq (fun ρ U => IsH a U U ∧ Odd A a U d ∧ ρ = [some (.rol (List.map Dv.int script)), some (.ref a), some (rowsD zs), some d, some (badD d), some (madeD d), none, none]) (fun N hN => ?_) (fun ρ U hM => ?_)
  · have n2 := ok.n2
    obtain ⟨z, hz, lz, _⟩ := ok.head
    have em : madeD (rowsD zs) = .tup [.str (Str.ofString "told"), rowsD zs, .int (8 * (n : Int)), .int (8 * (zs.length : Int))] := by
      unfold madeD
      rw [ok.good, ok.wide.1, ok.wide.2]
    have kr : kL A T (rowsD zs) := kL_rows ok
    simp_arith only [and_self]
    refine ⟨rowsD zs, rfl, kr, fun U hs => ?_⟩
    have pm := plain_made (rowsD zs)
    rw [em] at pm ⊢
    unfold rowsD at hN pm ⊢
    simp_arith only [and_self]
    refine ⟨_, by rw [List.getElem?_map, hz]; rfl, ?_⟩
    simp_arith only [and_self]
    rw [List.length_map, lz]
    refine ⟨slK (by omega), mulok_l (by decide) (by decide), mulok_l (by decide) (by decide), slK, ?_⟩
    refine ⟨_, rfl, pm, ?_⟩
    simp_arith only [and_self]
    rw [if_neg (by decide)]
    exact hN _ _ ⟨hT.subH hs, hd.mv (Gr.of_sub hs), rfl⟩
  clear hT hd
  obtain ⟨hT, hd, rfl⟩ := hM
  refine cut_seq (fun ρ T => ∃ g, IsH a T T ∧ Odd A a T d ∧ IsG A T g zs n ∧ g ≠ a ∧ ρ = [some (.rol (List.map Dv.int script)), some (.ref a), some (rowsD zs), some d, some (badD d), some (madeD d), some (.ref g), none]) (fun N hN => ?_) (fun ρ T hM => ?_)
  · have kr : kL A U (rowsD zs) := kL_rows ok
    simp_arith only [and_self]
    refine ⟨rowsD zs, rfl, kr, ?_⟩
    rw [ok.good]
    intro g dx hg
    exact hN _ _ ⟨g, hT.putN hg, hd.mv (Gr.of_sub (Sub.new hg)), IsG.new ok, (hT.free hg).1, rfl⟩
  clear hT hd
  obtain ⟨g, hT, hd, hG, ne, rfl⟩ := hM
  refine cut_seq (fun ρ U => IsH a U U ∧ Odd A a U d ∧ IsG A U g zs n ∧ ∃ y7, ρ = [some (.rol (List.map Dv.int script)), some (.ref a), some (rowsD zs), some d, some (badD d), some (madeD d), some (.ref g), y7]) (fun N hN => ?_) (fun ρ U hM => ?_)
  · simp_arith only [and_self]
    refine for_go (fun k ρ U => IsH a U U ∧ Odd A a U d ∧ IsG A U g zs n ∧ ∃ y7, ρ = [some (.rol (List.map Dv.int script)), some (.ref a), some (rowsD zs), some d, some (badD d), some (madeD d), some (.ref g), y7])
      ⟨hT, hd, hG, _, rfl⟩ (fun _ _ _ _ _ => trivial) (fun k z ρ U hz hw => ?_) fun ρ U hw => hN _ _ hw
    obtain ⟨hU, hd, hG, y7, rfl⟩ := hw
    simp_arith only [and_self]
    refine ⟨a, g, zs, n, rfl, hU, hG, ne, fun V hV gV => ?_⟩
    simp_arith only [and_self]
    rw [if_neg (by decide)]
    exact ⟨hV, hd.mv gV, hG.mv gV ne, _, rfl⟩
  clear hT hd hG
  obtain ⟨hT, hd, hG, y7, rfl⟩ := hM
  refine cut_seq (fun ρ T => IsH a T T ∧ IsG A T g zs n ∧ ρ = [some (.rol (List.map Dv.int script)), some (.ref a), some (rowsD zs), some d, some (badD d), some (madeD d), some (.ref g), y7]) (fun N hN => ?_) (fun ρ T hM => ?_)
  · unfold badD at hN ⊢
    cases eb : badG d with
    | some i =>
      simp only [eb] at hN
      simp_arith only [and_self]
      exact hN _ _ ⟨hT, hG, rfl⟩
    | none =>
      simp only [eb] at hN
      obtain ⟨ys, m, ok2, rfl⟩ := badG_none eb
      have kr : kL A U (rowsD ys) := kL_rows ok2
      simp_arith only [and_self]
      refine ⟨rowsD ys, rfl, kr, ?_⟩
      rw [eb]
      intro x dx hx
      have gS : Gr a U (put U x (gObj A dx (rowsD ys))) := Gr.of_sub (Sub.new hx)
      refine own_eq (IsG.new ok2) (hG.mv gS ne) ?_
      refine eqG_of (n := 2) rfl rfl ok2.clean ok.clean ⟨rowsD_inj, fun e => by rw [e]⟩ ?_
      simp_arith only [and_self]
      exact hN _ _ ⟨hT.putN hx, hG.mv gS ne, rfl⟩
  clear hT hG
  obtain ⟨hT, hG, rfl⟩ := hM
  have kr : kL A T (rowsD zs) := kL_rows ok
  simp_arith only [and_self]
  refine ⟨rowsD zs, rfl, kr, ?_⟩
  rw [ok.good]
  intro x dx hx
  have gS : Gr a T (put T x (gObj A dx (rowsD zs))) := Gr.of_sub (Sub.new hx)
  refine own_eq (IsG.new ok) (hG.mv gS ne) ?_
  rw [decide_eq_true rfl]
  exact q _
end Lw

namespace Lw
open PySem PySem.Spec PyProof.Rows L2 VD
/-! terms, printed by gen.py from the law k02 -/
def topS (i : Nat) : Stmt := PySem.Challenge.pw_guessedworlds_k02_grounds_judged_and_ope.main.body.getD i (.Pass ⟨0, 0, 0, 0⟩)
abbrev s_is_integer : Stmt := topS 5
abbrev N_is_integer : List Str := [Str.ofString "thing"]
theorem sc_is_integer : FnScope N_is_integer [Str.ofString "thing"] (defScope s_is_integer) := ⟨rfl, rfl, rfl, by decide +kernel, rfl, by decide +kernel, by decide +kernel⟩
abbrev s_is_within : Stmt := topS 6
abbrev N_is_within : List Str := [Str.ofString "thing", Str.ofString "least", Str.ofString "most"]
theorem sc_is_within : FnScope N_is_within [Str.ofString "thing", Str.ofString "least", Str.ofString "most"] (defScope s_is_within) := ⟨rfl, rfl, rfl, by decide +kernel, rfl, by decide +kernel, by decide +kernel⟩
abbrev s_is_sized : Stmt := topS 7
abbrev N_is_sized : List Str := [Str.ofString "thing", Str.ofString "least", Str.ofString "most"]
theorem sc_is_sized : FnScope N_is_sized [Str.ofString "thing", Str.ofString "least", Str.ofString "most"] (defScope s_is_sized) := ⟨rfl, rfl, rfl, by decide +kernel, rfl, by decide +kernel, by decide +kernel⟩
abbrev s_check_integers : Stmt := topS 8
abbrev N_check_integers : List Str := [Str.ofString "things", Str.ofString "thing"]
theorem sc_check_integers : FnScope N_check_integers [Str.ofString "things"] (defScope s_check_integers) := ⟨rfl, rfl, rfl, by decide +kernel, rfl, by decide +kernel, by decide +kernel⟩
abbrev s_check_within : Stmt := topS 9
abbrev N_check_within : List Str := [Str.ofString "thing", Str.ofString "least", Str.ofString "most"]
theorem sc_check_within : FnScope N_check_within [Str.ofString "thing", Str.ofString "least", Str.ofString "most"] (defScope s_check_within) := ⟨rfl, rfl, rfl, by decide +kernel, rfl, by decide +kernel, by decide +kernel⟩
abbrev s_is_row : Stmt := topS 18
abbrev N_is_row : List Str := [Str.ofString "thing", Str.ofString "sign"]
theorem sc_is_row : FnScope N_is_row [Str.ofString "thing"] (defScope s_is_row) := ⟨rfl, rfl, rfl, by decide +kernel, rfl, by decide +kernel, by decide +kernel⟩
abbrev s_Ground_init : Stmt := inClass (topS 19) 0
abbrev N_Ground_init : List Str := [Str.ofString "self", Str.ofString "rows", Str.ofString "index", Str.ofString "row"]
theorem sc_Ground_init : FnScope N_Ground_init [Str.ofString "self", Str.ofString "rows"] (defScope s_Ground_init) := ⟨rfl, rfl, rfl, by decide +kernel, rfl, by decide +kernel, by decide +kernel⟩
abbrev s_Ground_eq : Stmt := inClass (topS 19) 1
abbrev N_Ground_eq : List Str := [Str.ofString "self", Str.ofString "other"]
theorem sc_Ground_eq : FnScope N_Ground_eq [Str.ofString "self", Str.ofString "other"] (defScope s_Ground_eq) := ⟨rfl, rfl, rfl, by decide +kernel, rfl, by decide +kernel, by decide +kernel⟩
abbrev s_sign_of : Stmt := topS 20
abbrev N_sign_of : List Str := [Str.ofString "ground", Str.ofString "x", Str.ofString "y"]
theorem sc_sign_of : FnScope N_sign_of [Str.ofString "ground", Str.ofString "x", Str.ofString "y"] (defScope s_sign_of) := ⟨rfl, rfl, rfl, by decide +kernel, rfl, by decide +kernel, by decide +kernel⟩
abbrev s_sign_at : Stmt := topS 21
abbrev N_sign_at : List Str := [Str.ofString "ground", Str.ofString "x", Str.ofString "y"]
theorem sc_sign_at : FnScope N_sign_at [Str.ofString "ground", Str.ofString "x", Str.ofString "y"] (defScope s_sign_at) := ⟨rfl, rfl, rfl, by decide +kernel, rfl, by decide +kernel, by decide +kernel⟩
abbrev s_spanned : Stmt := topS 22
abbrev N_spanned : List Str := [Str.ofString "begin", Str.ofString "length"]
theorem sc_spanned : FnScope N_spanned [Str.ofString "begin", Str.ofString "length"] (defScope s_spanned) := ⟨rfl, rfl, rfl, by decide +kernel, rfl, by decide +kernel, by decide +kernel⟩
abbrev s_opens : Stmt := topS 23
abbrev N_opens : List Str := [Str.ofString "ground", Str.ofString "x", Str.ofString "y", Str.ofString "wide", Str.ofString "high", Str.ofString "row", Str.ofString "column"]
theorem sc_opens : FnScope N_opens [Str.ofString "ground", Str.ofString "x", Str.ofString "y", Str.ofString "wide", Str.ofString "high"] (defScope s_opens) := ⟨rfl, rfl, rfl, by decide +kernel, rfl, by decide +kernel, by decide +kernel⟩
abbrev s_is_open : Stmt := topS 24
abbrev N_is_open : List Str := [Str.ofString "ground", Str.ofString "x", Str.ofString "y", Str.ofString "wide", Str.ofString "high"]
theorem sc_is_open : FnScope N_is_open [Str.ofString "ground", Str.ofString "x", Str.ofString "y", Str.ofString "wide", Str.ofString "high"] (defScope s_is_open) := ⟨rfl, rfl, rfl, by decide +kernel, rfl, by decide +kernel, by decide +kernel⟩
abbrev s__law_hand : Stmt := topS 26
abbrev N__law_hand : List Str := [Str.ofString "_law_script"]
theorem sc__law_hand : FnScope N__law_hand [Str.ofString "_law_script"] (defScope s__law_hand) := ⟨rfl, rfl, rfl, by decide +kernel, rfl, by decide +kernel, by decide +kernel⟩
abbrev s__law_take : Stmt := topS 27
abbrev N__law_take : List Str := [Str.ofString "_law_hand_here", Str.ofString "_law_many", Str.ofString "_law_cell", Str.ofString "_law_found", Str.ofString "_law_number"]
theorem sc__law_take : FnScope N__law_take [Str.ofString "_law_hand_here", Str.ofString "_law_many"] (defScope s__law_take) := ⟨rfl, rfl, rfl, by decide +kernel, rfl, by decide +kernel, by decide +kernel⟩
abbrev s__law_pick : Stmt := topS 28
abbrev N__law_pick : List Str := [Str.ofString "_law_hand_here", Str.ofString "_law_things"]
theorem sc__law_pick : FnScope N__law_pick [Str.ofString "_law_hand_here", Str.ofString "_law_things"] (defScope s__law_pick) := ⟨rfl, rfl, rfl, by decide +kernel, rfl, by decide +kernel, by decide +kernel⟩
abbrev s__law_great : Stmt := topS 29
abbrev N__law_great : List Str := [Str.ofString "_law_hand_here"]
theorem sc__law_great : FnScope N__law_great [Str.ofString "_law_hand_here"] (defScope s__law_great) := ⟨rfl, rfl, rfl, by decide +kernel, rfl, by decide +kernel, by decide +kernel⟩
abbrev s__law_is_integer : Stmt := topS 30
abbrev N__law_is_integer : List Str := [Str.ofString "_law_thing"]
theorem sc__law_is_integer : FnScope N__law_is_integer [Str.ofString "_law_thing"] (defScope s__law_is_integer) := ⟨rfl, rfl, rfl, by decide +kernel, rfl, by decide +kernel, by decide +kernel⟩
abbrev s__law_is_within : Stmt := topS 31
abbrev N__law_is_within : List Str := [Str.ofString "_law_thing", Str.ofString "_law_least", Str.ofString "_law_most"]
theorem sc__law_is_within : FnScope N__law_is_within [Str.ofString "_law_thing", Str.ofString "_law_least", Str.ofString "_law_most"] (defScope s__law_is_within) := ⟨rfl, rfl, rfl, by decide +kernel, rfl, by decide +kernel, by decide +kernel⟩
abbrev s__law_same : Stmt := topS 32
abbrev N__law_same : List Str := [Str.ofString "_law_actual", Str.ofString "_law_due", Str.ofString "_law_one", Str.ofString "_law_other"]
theorem sc__law_same : FnScope N__law_same [Str.ofString "_law_actual", Str.ofString "_law_due"] (defScope s__law_same) := ⟨rfl, rfl, rfl, by decide +kernel, rfl, by decide +kernel, by decide +kernel⟩
abbrev s__law_odd : Stmt := topS 33
abbrev N__law_odd : List Str := [Str.ofString "_law_hand_here", Str.ofString "_law_way"]
theorem sc__law_odd : FnScope N__law_odd [Str.ofString "_law_hand_here"] (defScope s__law_odd) := ⟨rfl, rfl, rfl, by decide +kernel, rfl, by decide +kernel, by decide +kernel⟩
abbrev s__law_ground_sign : Stmt := topS 34
abbrev N__law_ground_sign : List Str := [Str.ofString "_law_hand_here", Str.ofString "_law_full", Str.ofString "_law_way"]
theorem sc__law_ground_sign : FnScope N__law_ground_sign [Str.ofString "_law_hand_here", Str.ofString "_law_full"] (defScope s__law_ground_sign) := ⟨rfl, rfl, rfl, by decide +kernel, rfl, by decide +kernel, by decide +kernel⟩
abbrev s__law_rows : Stmt := topS 35
abbrev N__law_rows : List Str := [Str.ofString "_law_hand_here", Str.ofString "_law_wide", Str.ofString "_law_high", Str.ofString "_law_full", Str.ofString "_law_found", Str.ofString "_law_k", Str.ofString "_law_j"]
theorem sc__law_rows : FnScope N__law_rows [Str.ofString "_law_hand_here", Str.ofString "_law_wide", Str.ofString "_law_high"] (defScope s__law_rows) := ⟨rfl, rfl, rfl, by decide +kernel, rfl, by decide +kernel, by decide +kernel⟩
abbrev s__law_ground : Stmt := topS 36
abbrev N__law_ground : List Str := [Str.ofString "_law_hand_here", Str.ofString "_law_way"]
theorem sc__law_ground : FnScope N__law_ground [Str.ofString "_law_hand_here"] (defScope s__law_ground) := ⟨rfl, rfl, rfl, by decide +kernel, rfl, by decide +kernel, by decide +kernel⟩
abbrev s__law_sign : Stmt := topS 37
abbrev N__law_sign : List Str := [Str.ofString "_law_rows_here", Str.ofString "_law_x", Str.ofString "_law_y"]
theorem sc__law_sign : FnScope N__law_sign [Str.ofString "_law_rows_here", Str.ofString "_law_x", Str.ofString "_law_y"] (defScope s__law_sign) := ⟨rfl, rfl, rfl, by decide +kernel, rfl, by decide +kernel, by decide +kernel⟩
abbrev s__law_first_bad : Stmt := topS 38
abbrev N__law_first_bad : List Str := [Str.ofString "_law_thing", Str.ofString "_law_k", Str.ofString "_law_row", Str.ofString "_law_sign_here"]
theorem sc__law_first_bad : FnScope N__law_first_bad [Str.ofString "_law_thing"] (defScope s__law_first_bad) := ⟨rfl, rfl, rfl, by decide +kernel, rfl, by decide +kernel, by decide +kernel⟩
abbrev s__law_large : Stmt := topS 39
abbrev N__law_large : List Str := [Str.ofString "_law_hand_here", Str.ofString "_law_rows_here", Str.ofString "_law_way", Str.ofString "_law_row"]
theorem sc__law_large : FnScope N__law_large [Str.ofString "_law_hand_here"] (defScope s__law_large) := ⟨rfl, rfl, rfl, by decide +kernel, rfl, by decide +kernel, by decide +kernel⟩
abbrev s__law_spoiled : Stmt := topS 40
abbrev N__law_spoiled : List Str := [Str.ofString "_law_hand_here", Str.ofString "_law_rows_here", Str.ofString "_law_way", Str.ofString "_law_at", Str.ofString "_law_place", Str.ofString "_law_other", Str.ofString "_law_row"]
theorem sc__law_spoiled : FnScope N__law_spoiled [Str.ofString "_law_hand_here", Str.ofString "_law_rows_here"] (defScope s__law_spoiled) := ⟨rfl, rfl, rfl, by decide +kernel, rfl, by decide +kernel, by decide +kernel⟩
abbrev s__law_made : Stmt := topS 41
abbrev N__law_made : List Str := [Str.ofString "_law_rows_here", Str.ofString "_law_ground_here", Str.ofString "error"]
theorem sc__law_made : FnScope N__law_made [Str.ofString "_law_rows_here"] (defScope s__law_made) := ⟨rfl, rfl, rfl, by decide +kernel, rfl, by decide +kernel, by decide +kernel⟩
abbrev s__law_signed : Stmt := topS 42
abbrev N__law_signed : List Str := [Str.ofString "_law_ground_here", Str.ofString "_law_x", Str.ofString "_law_y"]
theorem sc__law_signed : FnScope N__law_signed [Str.ofString "_law_ground_here", Str.ofString "_law_x", Str.ofString "_law_y"] (defScope s__law_signed) := ⟨rfl, rfl, rfl, by decide +kernel, rfl, by decide +kernel, by decide +kernel⟩
abbrev s__law_opened : Stmt := topS 43
abbrev N__law_opened : List Str := [Str.ofString "_law_ground_here", Str.ofString "_law_x", Str.ofString "_law_y", Str.ofString "_law_wide", Str.ofString "_law_high"]
theorem sc__law_opened : FnScope N__law_opened [Str.ofString "_law_ground_here", Str.ofString "_law_x", Str.ofString "_law_y", Str.ofString "_law_wide", Str.ofString "_law_high"] (defScope s__law_opened) := ⟨rfl, rfl, rfl, by decide +kernel, rfl, by decide +kernel, by decide +kernel⟩
abbrev s__law_units_open : Stmt := topS 44
abbrev N__law_units_open : List Str := [Str.ofString "_law_rows_here", Str.ofString "_law_x", Str.ofString "_law_y", Str.ofString "_law_wide", Str.ofString "_law_high", Str.ofString "_law_across", Str.ofString "_law_along"]
theorem sc__law_units_open : FnScope N__law_units_open [Str.ofString "_law_rows_here", Str.ofString "_law_x", Str.ofString "_law_y", Str.ofString "_law_wide", Str.ofString "_law_high"] (defScope s__law_units_open) := ⟨rfl, rfl, rfl, by decide +kernel, rfl, by decide +kernel, by decide +kernel⟩
abbrev s__law_where : Stmt := topS 45
abbrev N__law_where : List Str := [Str.ofString "_law_hand_here", Str.ofString "_law_long", Str.ofString "_law_way"]
theorem sc__law_where : FnScope N__law_where [Str.ofString "_law_hand_here", Str.ofString "_law_long"] (defScope s__law_where) := ⟨rfl, rfl, rfl, by decide +kernel, rfl, by decide +kernel, by decide +kernel⟩
abbrev s__law_side : Stmt := topS 46
abbrev N__law_side : List Str := [Str.ofString "_law_hand_here"]
theorem sc__law_side : FnScope N__law_side [Str.ofString "_law_hand_here"] (defScope s__law_side) := ⟨rfl, rfl, rfl, by decide +kernel, rfl, by decide +kernel, by decide +kernel⟩
abbrev s__law_asked : Stmt := topS 47
abbrev N__law_asked : List Str := [Str.ofString "_law_hand_here", Str.ofString "_law_rows_here", Str.ofString "_law_ground_here", Str.ofString "_law_x", Str.ofString "_law_y", Str.ofString "_law_wide", Str.ofString "_law_high", Str.ofString "_law_sign_here", Str.ofString "_law_opening"]
theorem sc__law_asked : FnScope N__law_asked [Str.ofString "_law_hand_here", Str.ofString "_law_rows_here", Str.ofString "_law_ground_here"] (defScope s__law_asked) := ⟨rfl, rfl, rfl, by decide +kernel, rfl, by decide +kernel, by decide +kernel⟩
abbrev s_law : Stmt := topS 48
abbrev N_law : List Str := [Str.ofString "_law_script", Str.ofString "_law_hand_here", Str.ofString "_law_rows_here", Str.ofString "_law_thing", Str.ofString "_law_bad", Str.ofString "_law_due", Str.ofString "_law_ground_here", Str.ofString "_law_k"]
theorem sc_law : FnScope N_law [Str.ofString "_law_script"] (defScope s_law) := ⟨rfl, rfl, rfl, by decide +kernel, rfl, by decide +kernel, by decide +kernel⟩
abbrev s_BadGround_init : Stmt := inClass (topS 3) 0
theorem sc_BadGround_init : FnScope [Str.ofString "self", Str.ofString "part"] [Str.ofString "self", Str.ofString "part"] (defScope s_BadGround_init) := ⟨rfl, rfl, rfl, by decide +kernel, rfl, by decide +kernel, by decide +kernel⟩
structure Tx (K : PySem.W.Frag) (mg : Str → Option Value) (A : Ad) where
  ot : OTab.Ok K A.ot
  c_Ground : Cls K A.Ground
  na_Ground_high : NoAttr K A.Ground (Str.ofString "high")
  na_Ground_rows : NoAttr K A.Ground (Str.ofString "rows")
  na_Ground_wide : NoAttr K A.Ground (Str.ofString "wide")
  a_is_integer : Addr
  fd_is_integer : FuncData
  F_is_integer : Fun K "is_integer" "is_integer" s_is_integer a_is_integer fd_is_integer
  m_is_integer : mg "is_integer" = some (.ref a_is_integer)
  b_is_integer : Binds K fd_is_integer [Str.ofString "thing"] []
  a_is_within : Addr
  fd_is_within : FuncData
  F_is_within : Fun K "is_within" "is_within" s_is_within a_is_within fd_is_within
  m_is_within : mg "is_within" = some (.ref a_is_within)
  b_is_within : Binds K fd_is_within [Str.ofString "thing", Str.ofString "least", Str.ofString "most"] []
  a_is_sized : Addr
  fd_is_sized : FuncData
  F_is_sized : Fun K "is_sized" "is_sized" s_is_sized a_is_sized fd_is_sized
  m_is_sized : mg "is_sized" = some (.ref a_is_sized)
  b_is_sized : Binds K fd_is_sized [Str.ofString "thing", Str.ofString "least", Str.ofString "most"] []
  a_check_integers : Addr
  fd_check_integers : FuncData
  F_check_integers : Fun K "check_integers" "check_integers" s_check_integers a_check_integers fd_check_integers
  m_check_integers : mg "check_integers" = some (.ref a_check_integers)
  b_check_integers : Binds K fd_check_integers [Str.ofString "things"] []
  a_check_within : Addr
  fd_check_within : FuncData
  F_check_within : Fun K "check_within" "check_within" s_check_within a_check_within fd_check_within
  m_check_within : mg "check_within" = some (.ref a_check_within)
  b_check_within : Binds K fd_check_within [Str.ofString "thing", Str.ofString "least", Str.ofString "most"] []
  a_is_row : Addr
  fd_is_row : FuncData
  F_is_row : Fun K "is_row" "is_row" s_is_row a_is_row fd_is_row
  m_is_row : mg "is_row" = some (.ref a_is_row)
  b_is_row : Binds K fd_is_row [Str.ofString "thing"] []
  a_Ground_init : Addr
  fd_Ground_init : FuncData
  F_Ground_init : Fun K "__init__" "Ground.__init__" s_Ground_init a_Ground_init fd_Ground_init
  b_Ground_init : Binds K fd_Ground_init [Str.ofString "self", Str.ofString "rows"] []
  a_Ground_eq : Addr
  fd_Ground_eq : FuncData
  F_Ground_eq : Fun K "__eq__" "Ground.__eq__" s_Ground_eq a_Ground_eq fd_Ground_eq
  b_Ground_eq : Binds K fd_Ground_eq [Str.ofString "self", Str.ofString "other"] []
  a_sign_of : Addr
  fd_sign_of : FuncData
  F_sign_of : Fun K "sign_of" "sign_of" s_sign_of a_sign_of fd_sign_of
  m_sign_of : mg "sign_of" = some (.ref a_sign_of)
  b_sign_of : Binds K fd_sign_of [Str.ofString "ground", Str.ofString "x", Str.ofString "y"] []
  a_sign_at : Addr
  fd_sign_at : FuncData
  F_sign_at : Fun K "sign_at" "sign_at" s_sign_at a_sign_at fd_sign_at
  m_sign_at : mg "sign_at" = some (.ref a_sign_at)
  b_sign_at : Binds K fd_sign_at [Str.ofString "ground", Str.ofString "x", Str.ofString "y"] []
  a_spanned : Addr
  fd_spanned : FuncData
  F_spanned : Fun K "spanned" "spanned" s_spanned a_spanned fd_spanned
  m_spanned : mg "spanned" = some (.ref a_spanned)
  b_spanned : Binds K fd_spanned [Str.ofString "begin", Str.ofString "length"] []
  a_opens : Addr
  fd_opens : FuncData
  F_opens : Fun K "opens" "opens" s_opens a_opens fd_opens
  m_opens : mg "opens" = some (.ref a_opens)
  b_opens : Binds K fd_opens [Str.ofString "ground", Str.ofString "x", Str.ofString "y", Str.ofString "wide", Str.ofString "high"] []
  a_is_open : Addr
  fd_is_open : FuncData
  F_is_open : Fun K "is_open" "is_open" s_is_open a_is_open fd_is_open
  m_is_open : mg "is_open" = some (.ref a_is_open)
  b_is_open : Binds K fd_is_open [Str.ofString "ground", Str.ofString "x", Str.ofString "y", Str.ofString "wide", Str.ofString "high"] []
  a__law_hand : Addr
  fd__law_hand : FuncData
  F__law_hand : Fun K "_law_hand" "_law_hand" s__law_hand a__law_hand fd__law_hand
  m__law_hand : mg "_law_hand" = some (.ref a__law_hand)
  b__law_hand : Binds K fd__law_hand [Str.ofString "_law_script"] []
  a__law_take : Addr
  fd__law_take : FuncData
  F__law_take : Fun K "_law_take" "_law_take" s__law_take a__law_take fd__law_take
  m__law_take : mg "_law_take" = some (.ref a__law_take)
  b__law_take : Binds K fd__law_take [Str.ofString "_law_hand_here", Str.ofString "_law_many"] []
  a__law_pick : Addr
  fd__law_pick : FuncData
  F__law_pick : Fun K "_law_pick" "_law_pick" s__law_pick a__law_pick fd__law_pick
  m__law_pick : mg "_law_pick" = some (.ref a__law_pick)
  b__law_pick : Binds K fd__law_pick [Str.ofString "_law_hand_here", Str.ofString "_law_things"] []
  a__law_great : Addr
  fd__law_great : FuncData
  F__law_great : Fun K "_law_great" "_law_great" s__law_great a__law_great fd__law_great
  m__law_great : mg "_law_great" = some (.ref a__law_great)
  b__law_great : Binds K fd__law_great [Str.ofString "_law_hand_here"] []
  a__law_is_integer : Addr
  fd__law_is_integer : FuncData
  F__law_is_integer : Fun K "_law_is_integer" "_law_is_integer" s__law_is_integer a__law_is_integer fd__law_is_integer
  m__law_is_integer : mg "_law_is_integer" = some (.ref a__law_is_integer)
  b__law_is_integer : Binds K fd__law_is_integer [Str.ofString "_law_thing"] []
  a__law_is_within : Addr
  fd__law_is_within : FuncData
  F__law_is_within : Fun K "_law_is_within" "_law_is_within" s__law_is_within a__law_is_within fd__law_is_within
  m__law_is_within : mg "_law_is_within" = some (.ref a__law_is_within)
  b__law_is_within : Binds K fd__law_is_within [Str.ofString "_law_thing", Str.ofString "_law_least", Str.ofString "_law_most"] []
  a__law_same : Addr
  fd__law_same : FuncData
  F__law_same : Fun K "_law_same" "_law_same" s__law_same a__law_same fd__law_same
  m__law_same : mg "_law_same" = some (.ref a__law_same)
  b__law_same : Binds K fd__law_same [Str.ofString "_law_actual", Str.ofString "_law_due"] []
  a__law_odd : Addr
  fd__law_odd : FuncData
  F__law_odd : Fun K "_law_odd" "_law_odd" s__law_odd a__law_odd fd__law_odd
  m__law_odd : mg "_law_odd" = some (.ref a__law_odd)
  b__law_odd : Binds K fd__law_odd [Str.ofString "_law_hand_here"] []
  a__law_ground_sign : Addr
  fd__law_ground_sign : FuncData
  F__law_ground_sign : Fun K "_law_ground_sign" "_law_ground_sign" s__law_ground_sign a__law_ground_sign fd__law_ground_sign
  m__law_ground_sign : mg "_law_ground_sign" = some (.ref a__law_ground_sign)
  b__law_ground_sign : Binds K fd__law_ground_sign [Str.ofString "_law_hand_here", Str.ofString "_law_full"] []
  a__law_rows : Addr
  fd__law_rows : FuncData
  F__law_rows : Fun K "_law_rows" "_law_rows" s__law_rows a__law_rows fd__law_rows
  m__law_rows : mg "_law_rows" = some (.ref a__law_rows)
  b__law_rows : Binds K fd__law_rows [Str.ofString "_law_hand_here", Str.ofString "_law_wide", Str.ofString "_law_high"] []
  a__law_ground : Addr
  fd__law_ground : FuncData
  F__law_ground : Fun K "_law_ground" "_law_ground" s__law_ground a__law_ground fd__law_ground
  m__law_ground : mg "_law_ground" = some (.ref a__law_ground)
  b__law_ground : Binds K fd__law_ground [Str.ofString "_law_hand_here"] []
  a__law_sign : Addr
  fd__law_sign : FuncData
  F__law_sign : Fun K "_law_sign" "_law_sign" s__law_sign a__law_sign fd__law_sign
  m__law_sign : mg "_law_sign" = some (.ref a__law_sign)
  b__law_sign : Binds K fd__law_sign [Str.ofString "_law_rows_here", Str.ofString "_law_x", Str.ofString "_law_y"] []
  a__law_first_bad : Addr
  fd__law_first_bad : FuncData
  F__law_first_bad : Fun K "_law_first_bad" "_law_first_bad" s__law_first_bad a__law_first_bad fd__law_first_bad
  m__law_first_bad : mg "_law_first_bad" = some (.ref a__law_first_bad)
  b__law_first_bad : Binds K fd__law_first_bad [Str.ofString "_law_thing"] []
  a__law_large : Addr
  fd__law_large : FuncData
  F__law_large : Fun K "_law_large" "_law_large" s__law_large a__law_large fd__law_large
  m__law_large : mg "_law_large" = some (.ref a__law_large)
  b__law_large : Binds K fd__law_large [Str.ofString "_law_hand_here"] []
  a__law_spoiled : Addr
  fd__law_spoiled : FuncData
  F__law_spoiled : Fun K "_law_spoiled" "_law_spoiled" s__law_spoiled a__law_spoiled fd__law_spoiled
  m__law_spoiled : mg "_law_spoiled" = some (.ref a__law_spoiled)
  b__law_spoiled : Binds K fd__law_spoiled [Str.ofString "_law_hand_here", Str.ofString "_law_rows_here"] []
  a__law_made : Addr
  fd__law_made : FuncData
  F__law_made : Fun K "_law_made" "_law_made" s__law_made a__law_made fd__law_made
  m__law_made : mg "_law_made" = some (.ref a__law_made)
  b__law_made : Binds K fd__law_made [Str.ofString "_law_rows_here"] []
  a__law_signed : Addr
  fd__law_signed : FuncData
  F__law_signed : Fun K "_law_signed" "_law_signed" s__law_signed a__law_signed fd__law_signed
  m__law_signed : mg "_law_signed" = some (.ref a__law_signed)
  b__law_signed : Binds K fd__law_signed [Str.ofString "_law_ground_here", Str.ofString "_law_x", Str.ofString "_law_y"] []
  a__law_opened : Addr
  fd__law_opened : FuncData
  F__law_opened : Fun K "_law_opened" "_law_opened" s__law_opened a__law_opened fd__law_opened
  m__law_opened : mg "_law_opened" = some (.ref a__law_opened)
  b__law_opened : Binds K fd__law_opened [Str.ofString "_law_ground_here", Str.ofString "_law_x", Str.ofString "_law_y", Str.ofString "_law_wide", Str.ofString "_law_high"] []
  a__law_units_open : Addr
  fd__law_units_open : FuncData
  F__law_units_open : Fun K "_law_units_open" "_law_units_open" s__law_units_open a__law_units_open fd__law_units_open
  m__law_units_open : mg "_law_units_open" = some (.ref a__law_units_open)
  b__law_units_open : Binds K fd__law_units_open [Str.ofString "_law_rows_here", Str.ofString "_law_x", Str.ofString "_law_y", Str.ofString "_law_wide", Str.ofString "_law_high"] []
  a__law_where : Addr
  fd__law_where : FuncData
  F__law_where : Fun K "_law_where" "_law_where" s__law_where a__law_where fd__law_where
  m__law_where : mg "_law_where" = some (.ref a__law_where)
  b__law_where : Binds K fd__law_where [Str.ofString "_law_hand_here", Str.ofString "_law_long"] []
  a__law_side : Addr
  fd__law_side : FuncData
  F__law_side : Fun K "_law_side" "_law_side" s__law_side a__law_side fd__law_side
  m__law_side : mg "_law_side" = some (.ref a__law_side)
  b__law_side : Binds K fd__law_side [Str.ofString "_law_hand_here"] []
  a__law_asked : Addr
  fd__law_asked : FuncData
  F__law_asked : Fun K "_law_asked" "_law_asked" s__law_asked a__law_asked fd__law_asked
  m__law_asked : mg "_law_asked" = some (.ref a__law_asked)
  b__law_asked : Binds K fd__law_asked [Str.ofString "_law_hand_here", Str.ofString "_law_rows_here", Str.ofString "_law_ground_here"] []
  a_law : Addr
  fd_law : FuncData
  F_law : Fun K "law" "law" s_law a_law fd_law
  m_law : mg "law" = some (.ref a_law)
  b_law : Binds K fd_law [Str.ofString "_law_script"] []
  me_Ground_eq : Meth K A.Ground (Str.ofString "__eq__") a_Ground_eq
  mk_Ground : Mk K A.Ground a_Ground_init
  u_CELL : Value
  m_CELL : mg "CELL" = some u_CELL
  v_CELL : VRep K u_CELL (.int 8)
  u_FREE : Value
  m_FREE : mg "FREE" = some u_FREE
  v_FREE : VRep K u_FREE (.str (Str.ofString "."))
  u_MARKS : Value
  m_MARKS : mg "MARKS" = some u_MARKS
  v_MARKS : VRep K u_MARKS (.str (Str.ofString "0123456789"))
  u_MOST_ROWS : Value
  m_MOST_ROWS : mg "MOST_ROWS" = some u_MOST_ROWS
  v_MOST_ROWS : VRep K u_MOST_ROWS (.int 30)
  u_MOST_SIDE : Value
  m_MOST_SIDE : mg "MOST_SIDE" = some u_MOST_SIDE
  v_MOST_SIDE : VRep K u_MOST_SIDE (.int 32)
  u_MOST_SIGNS : Value
  m_MOST_SIGNS : mg "MOST_SIGNS" = some u_MOST_SIGNS
  v_MOST_SIGNS : VRep K u_MOST_SIGNS (.int 40)
  u_WALL : Value
  m_WALL : mg "WALL" = some u_WALL
  v_WALL : VRep K u_WALL (.str (Str.ofString "#"))
  n_all : mg "all" = none
  n_any : mg "any" = none
  n_bool : mg "bool" = none
  n_enumerate : mg "enumerate" = none
  n_int : mg "int" = none
  n_isinstance : mg "isinstance" = none
  n_len : mg "len" = none
  n_list : mg "list" = none
  n_range : mg "range" = none
  n_str : mg "str" = none
  n_tuple : mg "tuple" = none
  n_zip : mg "zip" = none
  m_NoNumber : mg "NoNumber" = some (.ref A.NoNumber)
  x_NoNumber : Exc0 K A.NoNumber
  m_BadGround : mg "BadGround" = some (.ref A.BadGround)
  o_BadGround : OexC K A.BadGround
  z_BadGround : XfC K A.BadGround
  nf_BadGround : PySem.W.findIn K (.ref A.BadGround) (Str.ofString "part") = some none
  ai_BadGround : Addr
  fdi_BadGround : FuncData
  i_BadGround : PySem.W.findIn K (.ref A.BadGround) "__init__" = some (some (.ref ai_BadGround))
  t_BadGround : PySem.W.typeIn K (.ref ai_BadGround) = some (.type "function")
  Fi_BadGround : Fun K "__init__" "BadGround.__init__" s_BadGround_init ai_BadGround fdi_BadGround
  bi_BadGround : Binds K fdi_BadGround [Str.ofString "self", Str.ofString "part"] []
  m_Ground : mg "Ground" = some (.ref A.Ground)
  e_BadGround_BadGround : PySem.W.exmOne K (.ref A.BadGround) (.ref A.BadGround) = some true
  e_NoNumber_NoNumber : PySem.W.exmOne K (.ref A.NoNumber) (.ref A.NoNumber) = some true
  otok : OtOk A
section
variable {P : Program} {w : World} {K : PySem.W.Frag} {mg : Str → Option Value} {base : Heap} {A : Ad}
theorem gi_BadGround (T : Tx K mg A) : FnOk P w K mg base (L2.CX P w) 1 T.ai_BadGround T.fdi_BadGround [Str.ofString "self", Str.ofString "part"] (spInit A.BadGround (Str.ofString "part")) := okInit T.Fi_BadGround sc_BadGround_init T.o_BadGround T.nf_BadGround (fun cdv An outer s H E hr => pss_one (ps_ost (pv 0) (pv 1)))
theorem w_is_integer (T : Tx K mg A) (cdv : Value) (An : Around) (outer : List Env) (s : Shared) (H : Hp) (E : XK) (hr : RoomG 0 (An.deeper (envOfC "is_integer" (defScope s_is_integer) s.heap.objs.size T.a_is_integer cdv))) :
    PSs (cxOf (L2.CX P w) P w K mg base N_is_integer "is_integer" (defScope s_is_integer) T.a_is_integer cdv An outer s H E) (defBody s_is_integer) (lowS K (WF E) (r_is_integer A)) :=
  (s_one (s_ret (d_and (d_callB call_isiA (l_isi T.ot) T.n_isinstance bt_isinstance (da_cons (dv 0) (da_cons (d_ty T.n_int bt_int) da_nil))) (d_one (d_not (d_callB call_isiA (l_isi T.ot) T.n_isinstance bt_isinstance (da_cons (dv 0) (da_cons (d_ty T.n_bool bt_bool) da_nil))))))))
theorem w_is_within (T : Tx K mg A) (G_is_integer : FnD P w K mg base 1 T.a_is_integer T.fd_is_integer [Str.ofString "thing"] (sp_is_integer A)) (cdv : Value) (An : Around) (outer : List Env) (s : Shared) (H : Hp) (E : XK) (hr : RoomG 1 (An.deeper (envOfC "is_within" (defScope s_is_within) s.heap.objs.size T.a_is_within cdv))) :
    PSs (cxOf (L2.CX P w) P w K mg base N_is_within "is_within" (defScope s_is_within) T.a_is_within cdv An outer s H E) (defBody s_is_within) (lowS K (WF E) (r_is_within A)) :=
  (s_one (s_ret (d_and (d_call G_is_integer (hr.mono (by decide)) T.m_is_integer T.F_is_integer.kp T.b_is_integer tkF (da_cons (dv 0) da_nil)) (d_one (d_chain op_le l_cmp op_le l_cmp (dv 1) (dv 0) (dv 2))))))
theorem w_is_sized (T : Tx K mg A) (cdv : Value) (An : Around) (outer : List Env) (s : Shared) (H : Hp) (E : XK) (hr : RoomG 0 (An.deeper (envOfC "is_sized" (defScope s_is_sized) s.heap.objs.size T.a_is_sized cdv))) :
    PSs (cxOf (L2.CX P w) P w K mg base N_is_sized "is_sized" (defScope s_is_sized) T.a_is_sized cdv An outer s H E) (defBody s_is_sized) (lowS K (WF E) (r_is_sized A)) :=
  (s_one (s_ret (d_and (d_callB call_isiA (l_isi T.ot) T.n_isinstance bt_isinstance (da_cons (dv 0) (da_cons (d_ty T.n_tuple bt_tuple) da_nil))) (d_one (d_chain op_le l_cmp op_le l_cmp (dv 1) (d_callB call_len l_len T.n_len bt_len (da_cons (dv 0) da_nil)) (dv 2))))))
theorem w_check_integers (T : Tx K mg A) (G_is_integer : FnD P w K mg base 1 T.a_is_integer T.fd_is_integer [Str.ofString "thing"] (sp_is_integer A)) (cdv : Value) (An : Around) (outer : List Env) (s : Shared) (H : Hp) (E : XK) (hr : RoomG 1 (An.deeper (envOfC "check_integers" (defScope s_check_integers) s.heap.objs.size T.a_check_integers cdv))) :
    PSs (cxOf (L2.CX P w) P w K mg base N_check_integers "check_integers" (defScope s_check_integers) T.a_check_integers cdv An outer s H E) (defBody s_check_integers) (lowS K (WF E) (r_check_integers A)) :=
  (s_one (s_if (t_not (t_val (d_callB (cr_all rfl) l_all T.n_all bt_all (da_cons (d_frz (d_lc (own := [(Str.ofString "thing", 1)]) rfl sc_check_integers.nd (i_seq (dv 0)) (blkOk_by (N := N_check_integers) (sc := defScope s_check_integers) (by decide +kernel)) (fun _ _ _ _ _ => (pg_name (i := 1) sc_check_integers.nd rfl (Or.inl rfl))) (ng_name (by decide)) (fun _ _ _ _ _ => c_nil) (fun _ _ _ _ _ => (d_call G_is_integer (hr.mono (by decide)) T.m_is_integer T.F_is_integer.kp T.b_is_integer takes0 (da_cons (dv 1) da_nil))))) da_nil)))) (s_one (s_raise0 rfl tkF T.x_NoNumber T.m_NoNumber)) s_nil))
theorem w_check_within (T : Tx K mg A) (G_is_within : FnD P w K mg base 2 T.a_is_within T.fd_is_within [Str.ofString "thing", Str.ofString "least", Str.ofString "most"] (sp_is_within A)) (cdv : Value) (An : Around) (outer : List Env) (s : Shared) (H : Hp) (E : XK) (hr : RoomG 2 (An.deeper (envOfC "check_within" (defScope s_check_within) s.heap.objs.size T.a_check_within cdv))) :
    PSs (cxOf (L2.CX P w) P w K mg base N_check_within "check_within" (defScope s_check_within) T.a_check_within cdv An outer s H E) (defBody s_check_within) (lowS K (WF E) (r_check_within A)) :=
  (s_one (s_if (t_not (t_val (d_call G_is_within (hr.mono (by decide)) T.m_is_within T.F_is_within.kp T.b_is_within tkF (da_cons (dv 0) (da_cons (dv 1) (da_cons (dv 2) da_nil)))))) (s_one (s_raise0 rfl tkF T.x_NoNumber T.m_NoNumber)) s_nil))
theorem w_is_row (T : Tx K mg A) (cdv : Value) (An : Around) (outer : List Env) (s : Shared) (H : Hp) (E : XK) (hr : RoomG 0 (An.deeper (envOfC "is_row" (defScope s_is_row) s.heap.objs.size T.a_is_row cdv))) :
    PSs (cxOf (L2.CX P w) P w K mg base N_is_row "is_row" (defScope s_is_row) T.a_is_row cdv An outer s H E) (defBody s_is_row) (lowS K (WF E) (r_is_row A)) :=
  (s_cons (s_if (PW.pt (t_or (t_not (t_val (d_callB call_isiA (l_isi T.ot) T.n_isinstance bt_isinstance (da_cons (dv 0) (da_cons (d_ty T.n_str bt_str) da_nil))))) (t_or1 (t_not (t_chain op_le l_cmp op_le l_cmp d_int (d_callB call_len l_len T.n_len bt_len (da_cons (dv 0) da_nil)) (d_glob T.m_MOST_SIGNS T.v_MOST_SIGNS)))))) (s_one (s_ret d_bl)) s_nil)
    (s_one (s_ret (d_callB (cr_all rfl) l_all T.n_all bt_all (da_cons (d_frz (d_lc (own := [(Str.ofString "sign", 1)]) rfl sc_is_row.nd (i_str (dv 0)) (blkOk_by (N := N_is_row) (sc := defScope s_is_row) (by decide +kernel)) (fun _ _ _ _ _ => (pg_name (i := 1) sc_is_row.nd rfl (Or.inl rfl))) (ng_name (by decide)) (fun _ _ _ _ _ => c_nil) (fun _ _ _ _ _ => (d_cmp op_in1 l_in1 (dv 1) (d_opV op_addA l_addV (d_opV op_addA l_addV (d_glob T.m_FREE T.v_FREE) (d_glob T.m_WALL T.v_WALL)) (d_glob T.m_MARKS T.v_MARKS)))))) da_nil)))))
theorem w_Ground_init (T : Tx K mg A) (G_is_sized : FnD P w K mg base 1 T.a_is_sized T.fd_is_sized [Str.ofString "thing", Str.ofString "least", Str.ofString "most"] (sp_is_sized A)) (G_is_row : FnD P w K mg base 1 T.a_is_row T.fd_is_row [Str.ofString "thing"] (sp_is_row A)) (cdv : Value) (An : Around) (outer : List Env) (s : Shared) (H : Hp) (E : XK) (hr : RoomG 2 (An.deeper (envOfC "Ground.__init__" (defScope s_Ground_init) s.heap.objs.size T.a_Ground_init cdv))) :
    PSs (cxOf (L2.CX P w) P w K mg base N_Ground_init "Ground.__init__" (defScope s_Ground_init) T.a_Ground_init cdv An outer s H E) (defBody s_Ground_init) (lowS K (WF E) (r_Ground_init A)) :=
  (s_cons (s_if (t_not (t_val (d_call G_is_sized (hr.mono (by decide)) T.m_is_sized T.F_is_sized.kp T.b_is_sized tkF (da_cons (dv 1) (da_cons d_int (da_cons (d_glob T.m_MOST_ROWS T.v_MOST_ROWS) da_nil)))))) (s_one (s_raise1 rfl tkF T.o_BadGround T.i_BadGround T.t_BadGround (gi_BadGround T) (hr.mono (by decide)) T.bi_BadGround T.m_BadGround (da_cons (d_neg d_int) da_nil))) s_nil)
    (s_cons (s_for (passes_of rfl) rfl (i_enumA T.n_enumerate (da_cons (dv 1) da_nil)) (g_tup (n := 2) rfl (g_cons (g_name 2 sc_Ground_init.nd) (g_cons (g_name 3 sc_Ground_init.nd) g_nil))) (s_one (s_if (PW.pt (t_or (t_not (t_val (d_call G_is_row (hr.mono (by decide)) T.m_is_row T.F_is_row.kp T.b_is_row tkF (da_cons (dv 3) da_nil)))) (t_or1 (t_cmp (op_neA hr.units) l_eq (d_callB call_len l_len T.n_len bt_len (da_cons (dv 3) da_nil)) (d_callB call_len l_len T.n_len bt_len (da_cons (d_ix (dv 1) d_int) da_nil)))))) (s_one (s_raise1 rfl tkF T.o_BadGround T.i_BadGround T.t_BadGround (gi_BadGround T) (hr.mono (by decide)) T.bi_BadGround T.m_BadGround (da_cons (dv 2) da_nil))) s_nil)))
    (s_cons (s_setF (fcs_cons T.c_Ground T.na_Ground_rows fcs_nil) (dv 0) (dv 1))
    (s_cons (s_setF (fcs_cons T.c_Ground T.na_Ground_wide fcs_nil) (dv 0) (d_op op_mulA l_mul (d_glob T.m_CELL T.v_CELL) (d_callB call_len l_len T.n_len bt_len (da_cons (d_ix (dv 1) d_int) da_nil))))
    (s_one (s_setF (fcs_cons T.c_Ground T.na_Ground_high fcs_nil) (dv 0) (d_op op_mulA l_mul (d_glob T.m_CELL T.v_CELL) (d_callB call_len l_len T.n_len bt_len (da_cons (dv 1) da_nil)))))))))
theorem w_Ground_eq (T : Tx K mg A) (cdv : Value) (An : Around) (outer : List Env) (s : Shared) (H : Hp) (E : XK) (hr : RoomG 0 (An.deeper (envOfC "Ground.__eq__" (defScope s_Ground_eq) s.heap.objs.size T.a_Ground_eq cdv))) :
    PSs (cxOf (L2.CX P w) P w K mg base N_Ground_eq "Ground.__eq__" (defScope s_Ground_eq) T.a_Ground_eq cdv An outer s H E) (defBody s_Ground_eq) (lowS K (WF E) (r_Ground_eq A)) :=
  (s_one (s_ret (d_and (d_callB call_isiA (l_isi T.ot) T.n_isinstance bt_isinstance (da_cons (dv 1) (da_cons (d_glob T.m_Ground v_ref) da_nil))) (d_one (d_cmp (op_eqA hr.units) l_eq (d_fld (fcs_cons T.c_Ground T.na_Ground_rows fcs_nil) (dv 0)) (d_fld (fcs_cons T.c_Ground T.na_Ground_rows fcs_nil) (dv 1)))))))
theorem w_sign_of (T : Tx K mg A) (cdv : Value) (An : Around) (outer : List Env) (s : Shared) (H : Hp) (E : XK) (hr : RoomG 0 (An.deeper (envOfC "sign_of" (defScope s_sign_of) s.heap.objs.size T.a_sign_of cdv))) :
    PSs (cxOf (L2.CX P w) P w K mg base N_sign_of "sign_of" (defScope s_sign_of) T.a_sign_of cdv An outer s H E) (defBody s_sign_of) (lowS K (WF E) (r_sign_of A)) :=
  (s_cons (s_if (PW.pt (t_and (t_chain op_le l_cmp op_lt l_cmp d_int (dv 1) (d_fld (fcs_cons T.c_Ground T.na_Ground_wide fcs_nil) (dv 0))) (t_and1 (t_chain op_le l_cmp op_lt l_cmp d_int (dv 2) (d_fld (fcs_cons T.c_Ground T.na_Ground_high fcs_nil) (dv 0)))))) (s_one (s_ret (d_ix (d_ix (d_fld (fcs_cons T.c_Ground T.na_Ground_rows fcs_nil) (dv 0)) (d_op op_divP l_div (dv 2) (d_glob T.m_CELL T.v_CELL))) (d_op op_divP l_div (dv 1) (d_glob T.m_CELL T.v_CELL))))) s_nil)
    (s_one (s_ret (d_glob T.m_WALL T.v_WALL))))
theorem w_sign_at (T : Tx K mg A) (G_check_integers : FnD P w K mg base 2 T.a_check_integers T.fd_check_integers [Str.ofString "things"] (sp_check_integers A)) (G_sign_of : FnD P w K mg base 1 T.a_sign_of T.fd_sign_of [Str.ofString "ground", Str.ofString "x", Str.ofString "y"] (sp_sign_of A)) (cdv : Value) (An : Around) (outer : List Env) (s : Shared) (H : Hp) (E : XK) (hr : RoomG 2 (An.deeper (envOfC "sign_at" (defScope s_sign_at) s.heap.objs.size T.a_sign_at cdv))) :
    PSs (cxOf (L2.CX P w) P w K mg base N_sign_at "sign_at" (defScope s_sign_at) T.a_sign_at cdv An outer s H E) (defBody s_sign_at) (lowS K (WF E) (r_sign_at A)) :=
  (s_cons (s_expr (d_call G_check_integers (hr.mono (by decide)) T.m_check_integers T.F_check_integers.kp T.b_check_integers tkF (da_cons (d_tup (da_cons (dv 1) (da_cons (dv 2) da_nil))) da_nil)))
    (s_one (s_ret (d_call G_sign_of (hr.mono (by decide)) T.m_sign_of T.F_sign_of.kp T.b_sign_of tkF (da_cons (dv 0) (da_cons (dv 1) (da_cons (dv 2) da_nil)))))))
theorem w_spanned (T : Tx K mg A) (cdv : Value) (An : Around) (outer : List Env) (s : Shared) (H : Hp) (E : XK) (hr : RoomG 0 (An.deeper (envOfC "spanned" (defScope s_spanned) s.heap.objs.size T.a_spanned cdv))) :
    PSs (cxOf (L2.CX P w) P w K mg base N_spanned "spanned" (defScope s_spanned) T.a_spanned cdv An outer s H E) (defBody s_spanned) (lowS K (WF E) (r_spanned A)) :=
  (s_one (s_ret (d_listRg2 rfl T.n_list T.n_range (d_op op_divP l_div (dv 0) (d_glob T.m_CELL T.v_CELL)) (d_opV op_addA l_addV (d_op op_divP l_div (d_op op_sub l_sub (d_opV op_addA l_addV (dv 0) (dv 1)) d_int) (d_glob T.m_CELL T.v_CELL)) d_int))))
theorem w_opens (T : Tx K mg A) (G_spanned : FnD P w K mg base 1 T.a_spanned T.fd_spanned [Str.ofString "begin", Str.ofString "length"] (sp_spanned A)) (cdv : Value) (An : Around) (outer : List Env) (s : Shared) (H : Hp) (E : XK) (hr : RoomG 1 (An.deeper (envOfC "opens" (defScope s_opens) s.heap.objs.size T.a_opens cdv))) :
    PSs (cxOf (L2.CX P w) P w K mg base N_opens "opens" (defScope s_opens) T.a_opens cdv An outer s H E) (defBody s_opens) (lowS K (WF E) (r_opens A)) :=
  (s_cons (s_if (PW.pt (t_or (t_cmp op_lt l_cmp (dv 1) d_int) (t_or (t_cmp op_lt l_cmp (dv 2) d_int) (t_or (t_cmp op_gt l_cmp (d_opV op_addA l_addV (dv 1) (dv 3)) (d_fld (fcs_cons T.c_Ground T.na_Ground_wide fcs_nil) (dv 0))) (t_or1 (t_cmp op_gt l_cmp (d_opV op_addA l_addV (dv 2) (dv 4)) (d_fld (fcs_cons T.c_Ground T.na_Ground_high fcs_nil) (dv 0)))))))) (s_one (s_ret d_bl)) s_nil)
    (s_cons (s_for (passes_of rfl) rfl (i_seq (d_call G_spanned (hr.mono (by decide)) T.m_spanned T.F_spanned.kp T.b_spanned tkF (da_cons (dv 2) (da_cons (dv 4) da_nil)))) (g_name 5 sc_opens.nd) (s_one (s_if (t_val (d_callB (cr_any rfl) l_any T.n_any bt_any (da_cons (d_frz (d_lc (own := [(Str.ofString "column", 6)]) rfl sc_opens.nd (i_seq (d_call G_spanned (hr.mono (by decide)) T.m_spanned T.F_spanned.kp T.b_spanned tkF (da_cons (dv 1) (da_cons (dv 3) da_nil)))) (blkOk_by (N := N_opens) (sc := defScope s_opens) (by decide +kernel)) (fun _ _ _ _ _ => (pg_name (i := 6) sc_opens.nd rfl (Or.inl rfl))) (ng_name (by decide)) (fun _ _ _ _ _ => c_nil) (fun _ _ _ _ _ => (d_cmp (op_eqA hr.units) l_eq (d_ix (d_ix (d_fld (fcs_cons T.c_Ground T.na_Ground_rows fcs_nil) (dv 0)) (dv 5)) (dv 6)) (d_glob T.m_WALL T.v_WALL))))) da_nil))) (s_one (s_ret d_bl)) s_nil)))
    (s_one (s_ret d_bl))))
theorem w_is_open (T : Tx K mg A) (G_check_integers : FnD P w K mg base 2 T.a_check_integers T.fd_check_integers [Str.ofString "things"] (sp_check_integers A)) (G_check_within : FnD P w K mg base 3 T.a_check_within T.fd_check_within [Str.ofString "thing", Str.ofString "least", Str.ofString "most"] (sp_check_within A)) (G_opens : FnD P w K mg base 2 T.a_opens T.fd_opens [Str.ofString "ground", Str.ofString "x", Str.ofString "y", Str.ofString "wide", Str.ofString "high"] (sp_opens A)) (cdv : Value) (An : Around) (outer : List Env) (s : Shared) (H : Hp) (E : XK) (hr : RoomG 3 (An.deeper (envOfC "is_open" (defScope s_is_open) s.heap.objs.size T.a_is_open cdv))) :
    PSs (cxOf (L2.CX P w) P w K mg base N_is_open "is_open" (defScope s_is_open) T.a_is_open cdv An outer s H E) (defBody s_is_open) (lowS K (WF E) (r_is_open A)) :=
  (s_cons (s_expr (d_call G_check_integers (hr.mono (by decide)) T.m_check_integers T.F_check_integers.kp T.b_check_integers tkF (da_cons (d_tup (da_cons (dv 1) (da_cons (dv 2) da_nil))) da_nil)))
    (s_cons (s_expr (d_call G_check_within (hr.mono (by decide)) T.m_check_within T.F_check_within.kp T.b_check_within tkF (da_cons (dv 3) (da_cons d_int (da_cons (d_glob T.m_MOST_SIDE T.v_MOST_SIDE) da_nil)))))
    (s_cons (s_expr (d_call G_check_within (hr.mono (by decide)) T.m_check_within T.F_check_within.kp T.b_check_within tkF (da_cons (dv 4) (da_cons d_int (da_cons (d_glob T.m_MOST_SIDE T.v_MOST_SIDE) da_nil)))))
    (s_one (s_ret (d_call G_opens (hr.mono (by decide)) T.m_opens T.F_opens.kp T.b_opens tkF (da_cons (dv 0) (da_cons (dv 1) (da_cons (dv 2) (da_cons (dv 3) (da_cons (dv 4) da_nil)))))))))))
theorem w__law_hand (T : Tx K mg A) (cdv : Value) (An : Around) (outer : List Env) (s : Shared) (H : Hp) (E : XK) (hr : RoomG 0 (An.deeper (envOfC "_law_hand" (defScope s__law_hand) s.heap.objs.size T.a__law_hand cdv))) :
    PSs (cxOf (L2.CX P w) P w K mg base N__law_hand "_law_hand" (defScope s__law_hand) T.a__law_hand cdv An outer s H E) (defBody s__law_hand) (lowS K (WF E) (r__law_hand A)) :=
  (s_one (s_ret (d_lst (da_cons (d_callTyV call_list_of l_listV T.n_list bt_list (da_cons (dv 0) da_nil)) (da_cons d_int (da_cons d_int (da_cons d_int (da_cons d_int da_nil))))))))
theorem w__law_take (T : Tx K mg A) (cdv : Value) (An : Around) (outer : List Env) (s : Shared) (H : Hp) (E : XK) (hr : RoomG 0 (An.deeper (envOfC "_law_take" (defScope s__law_take) s.heap.objs.size T.a__law_take cdv))) :
    PSs (cxOf (L2.CX P w) P w K mg base N__law_take "_law_take" (defScope s__law_take) T.a__law_take cdv An outer s H E) (defBody s__law_take) (lowS K (WF E) (r__law_take A)) :=
  (s_cons (s_asg (d_opV op_addA l_addV (d_ix (dv 0) d_int) d_int) (g_sub (W := W0) set_list l_set (dv 0) d_int))
    (s_cons (s_if (PW.pt (t_and (t_cmp (op_eqA hr.units) l_eq (d_ix (dv 0) d_int) d_int) (t_and1 (t_cmp op_lt l_cmp (d_ix (dv 0) d_int) (d_callB call_len l_len T.n_len bt_len (da_cons (d_ix (dv 0) d_int) da_nil)))))) (s_cons (s_set 2 sc__law_take.nd (d_callTy call_int1 l_int T.n_int bt_int (da_cons (d_ix (d_ix (dv 0) d_int) (d_ix (dv 0) d_int)) da_nil)))
    (s_cons (s_asg (d_opV op_addA l_addV (d_ix (dv 0) d_int) d_int) (g_sub (W := W0) set_list l_set (dv 0) d_int))
    (s_one (s_if (t_cmp op_ge l_cmp (dv 2) (d_op op_pow l_pow d_int d_int)) (s_one (s_asg (dv 2) (g_sub (W := W0) set_list l_set (dv 0) d_int))) (s_one (s_asg (d_op op_mod l_mod (d_callTy call_int1 l_int T.n_int bt_int (da_cons (d_opV op_addA l_addV (d_opV op_addA l_addV (d_opV op_mulB l_mulV (d_ix (dv 0) d_int) d_int) (d_op op_mod l_mod (d_callTy call_int1 l_int T.n_int bt_int (da_cons (dv 2) da_nil)) d_int)) d_int) da_nil)) d_int) (g_sub (W := W0) set_list l_set (dv 0) d_int))))))) s_nil)
    (s_cons (s_if (t_cmp op_gt l_cmp (d_ix (dv 0) d_int) d_int) (s_cons (s_set 3 sc__law_take.nd (d_op op_mod l_mod (d_callTy call_int1 l_int T.n_int bt_int (da_cons (d_ix (dv 0) d_int) da_nil)) (dv 1)))
    (s_cons (s_asg (d_op op_divP l_div (d_callTy call_int1 l_int T.n_int bt_int (da_cons (d_ix (dv 0) d_int) da_nil)) (dv 1)) (g_sub (W := W0) set_list l_set (dv 0) d_int))
    (s_one (s_ret (dv 3))))) s_nil)
    (s_cons (s_asg (d_op op_mod l_mod (d_callTy call_int1 l_int T.n_int bt_int (da_cons (d_opV op_addA l_addV (d_opV op_mulB l_mulV (d_ix (dv 0) d_int) d_int) (d_opV op_mulB l_mulV d_int (d_ix (dv 0) d_int))) da_nil)) d_int) (g_sub (W := W0) set_list l_set (dv 0) d_int))
    (s_cons (s_set 4 sc__law_take.nd (d_op op_mod l_mod (d_callTy call_int1 l_int T.n_int bt_int (da_cons (d_opV op_mulB l_mulV (d_ix (dv 0) d_int) (d_opV op_addA l_addV (d_op op_divP l_div (d_ix (dv 0) d_int) d_int) d_int)) da_nil)) d_int))
    (s_cons (s_set 4 sc__law_take.nd (d_op op_mod l_mod (d_callTy call_int1 l_int T.n_int bt_int (da_cons (d_opV op_mulB l_mulV (dv 4) (d_opV op_addA l_addV (d_op op_divP l_div (dv 4) d_int) d_int)) da_nil)) d_int))
    (s_one (s_ret (d_op op_mod l_mod (d_callTy call_int1 l_int T.n_int bt_int (da_cons (d_op op_divP l_div (dv 4) d_int) da_nil)) (dv 1))))))))))
theorem w__law_pick (T : Tx K mg A) (G__law_take : FnD P w K mg base 1 T.a__law_take T.fd__law_take [Str.ofString "_law_hand_here", Str.ofString "_law_many"] (sp__law_take A)) (cdv : Value) (An : Around) (outer : List Env) (s : Shared) (H : Hp) (E : XK) (hr : RoomG 1 (An.deeper (envOfC "_law_pick" (defScope s__law_pick) s.heap.objs.size T.a__law_pick cdv))) :
    PSs (cxOf (L2.CX P w) P w K mg base N__law_pick "_law_pick" (defScope s__law_pick) T.a__law_pick cdv An outer s H E) (defBody s__law_pick) (lowS K (WF E) (r__law_pick A)) :=
  (s_one (s_ret (d_ix (dv 1) (d_call G__law_take (hr.mono (by decide)) T.m__law_take T.F__law_take.kp T.b__law_take tkF (da_cons (dv 0) (da_cons (d_callB call_len l_len T.n_len bt_len (da_cons (dv 1) da_nil)) da_nil))))))
theorem w__law_great (T : Tx K mg A) (G__law_take : FnD P w K mg base 1 T.a__law_take T.fd__law_take [Str.ofString "_law_hand_here", Str.ofString "_law_many"] (sp__law_take A)) (cdv : Value) (An : Around) (outer : List Env) (s : Shared) (H : Hp) (E : XK) (hr : RoomG 1 (An.deeper (envOfC "_law_great" (defScope s__law_great) s.heap.objs.size T.a__law_great cdv))) :
    PSs (cxOf (L2.CX P w) P w K mg base N__law_great "_law_great" (defScope s__law_great) T.a__law_great cdv An outer s H E) (defBody s__law_great) (lowS K (WF E) (r__law_great A)) :=
  (s_one (s_ret (d_opV op_addA l_addV (d_opV op_mulB l_mulV (d_opV op_addA l_addV (d_opV op_mulB l_mulV (d_call G__law_take (hr.mono (by decide)) T.m__law_take T.F__law_take.kp T.b__law_take tkF (da_cons (dv 0) (da_cons (d_op op_pow l_pow d_int d_int) da_nil))) (d_op op_pow l_pow d_int d_int)) (d_call G__law_take (hr.mono (by decide)) T.m__law_take T.F__law_take.kp T.b__law_take tkF (da_cons (dv 0) (da_cons (d_op op_pow l_pow d_int d_int) da_nil)))) (d_op op_pow l_pow d_int d_int)) (d_opV op_addA l_addV (d_opV op_mulB l_mulV (d_call G__law_take (hr.mono (by decide)) T.m__law_take T.F__law_take.kp T.b__law_take tkF (da_cons (dv 0) (da_cons (d_op op_pow l_pow d_int d_int) da_nil))) (d_op op_pow l_pow d_int d_int)) (d_call G__law_take (hr.mono (by decide)) T.m__law_take T.F__law_take.kp T.b__law_take tkF (da_cons (dv 0) (da_cons (d_op op_pow l_pow d_int d_int) da_nil)))))))
theorem w__law_is_integer (T : Tx K mg A) (cdv : Value) (An : Around) (outer : List Env) (s : Shared) (H : Hp) (E : XK) (hr : RoomG 0 (An.deeper (envOfC "_law_is_integer" (defScope s__law_is_integer) s.heap.objs.size T.a__law_is_integer cdv))) :
    PSs (cxOf (L2.CX P w) P w K mg base N__law_is_integer "_law_is_integer" (defScope s__law_is_integer) T.a__law_is_integer cdv An outer s H E) (defBody s__law_is_integer) (lowS K (WF E) (r__law_is_integer A)) :=
  (s_one (s_ret (d_and (d_callB call_isiA (l_isi T.ot) T.n_isinstance bt_isinstance (da_cons (dv 0) (da_cons (d_ty T.n_int bt_int) da_nil))) (d_one (d_not (d_callB call_isiA (l_isi T.ot) T.n_isinstance bt_isinstance (da_cons (dv 0) (da_cons (d_ty T.n_bool bt_bool) da_nil))))))))
theorem w__law_is_within (T : Tx K mg A) (G__law_is_integer : FnD P w K mg base 1 T.a__law_is_integer T.fd__law_is_integer [Str.ofString "_law_thing"] (sp__law_is_integer A)) (cdv : Value) (An : Around) (outer : List Env) (s : Shared) (H : Hp) (E : XK) (hr : RoomG 1 (An.deeper (envOfC "_law_is_within" (defScope s__law_is_within) s.heap.objs.size T.a__law_is_within cdv))) :
    PSs (cxOf (L2.CX P w) P w K mg base N__law_is_within "_law_is_within" (defScope s__law_is_within) T.a__law_is_within cdv An outer s H E) (defBody s__law_is_within) (lowS K (WF E) (r__law_is_within A)) :=
  (s_one (s_ret (d_and (d_call G__law_is_integer (hr.mono (by decide)) T.m__law_is_integer T.F__law_is_integer.kp T.b__law_is_integer tkF (da_cons (dv 0) da_nil)) (d_and (d_cmp op_le l_cmp (dv 1) (dv 0)) (d_one (d_cmp op_le l_cmp (dv 0) (dv 2)))))))
theorem w__law_same (T : Tx K mg A) (G__law_is_integer : FnD P w K mg base 1 T.a__law_is_integer T.fd__law_is_integer [Str.ofString "_law_thing"] (sp__law_is_integer A)) (j : Nat) (hj : 1 ≤ j) (sp_self : SpD) (G__law_same : FnD P w K mg base j T.a__law_same T.fd__law_same [Str.ofString "_law_actual", Str.ofString "_law_due"] sp_self) (cdv : Value) (An : Around) (outer : List Env) (s : Shared) (H : Hp) (E : XK) (hr : RoomG j (An.deeper (envOfC "_law_same" (defScope s__law_same) s.heap.objs.size T.a__law_same cdv))) :
    PSs (cxOf (L2.CX P w) P w K mg base N__law_same "_law_same" (defScope s__law_same) T.a__law_same cdv An outer s H E) (defBody s__law_same) (lowS K (WF E) (r__law_same A sp_self)) :=
  (s_cons (s_if (t_cmp op_isN l_isN (dv 1) d_non) (s_one (s_ret (d_cmp op_isN l_isN (dv 0) d_non))) s_nil)
    (s_cons (s_if (t_cmp op_isBA l_isB (dv 1) d_bl) (s_one (s_ret (d_cmp op_isBA l_isB (dv 0) d_bl))) s_nil)
    (s_cons (s_if (t_cmp op_isBA l_isB (dv 1) d_bl) (s_one (s_ret (d_cmp op_isBA l_isB (dv 0) d_bl))) s_nil)
    (s_cons (s_if (t_val (d_callB call_isiA (l_isi T.ot) T.n_isinstance bt_isinstance (da_cons (dv 1) (da_cons (d_ty T.n_int bt_int) da_nil)))) (s_one (s_ret (d_and (d_call G__law_is_integer (hr.mono (Nat.le_trans (by decide) hj)) T.m__law_is_integer T.F__law_is_integer.kp T.b__law_is_integer tkF (da_cons (dv 0) da_nil)) (d_one (d_cmp (op_eqA hr.units) l_eq (dv 0) (dv 1)))))) s_nil)
    (s_cons (s_if (t_val (d_callB call_isiA (l_isi T.ot) T.n_isinstance bt_isinstance (da_cons (dv 1) (da_cons (d_ty T.n_str bt_str) da_nil)))) (s_one (s_ret (d_and (d_callB call_isiA (l_isi T.ot) T.n_isinstance bt_isinstance (da_cons (dv 0) (da_cons (d_ty T.n_str bt_str) da_nil))) (d_one (d_cmp (op_eqA hr.units) l_eq (dv 0) (dv 1)))))) s_nil)
    (s_cons (s_if (PW.pt (t_or (t_cmp (op_neA hr.units) l_eq (d_callB call_isiA (l_isi T.ot) T.n_isinstance bt_isinstance (da_cons (dv 1) (da_cons (d_ty T.n_tuple bt_tuple) da_nil))) (d_callB call_isiA (l_isi T.ot) T.n_isinstance bt_isinstance (da_cons (dv 0) (da_cons (d_ty T.n_tuple bt_tuple) da_nil)))) (t_or1 (t_cmp (op_neA hr.units) l_eq (d_callB call_isiA (l_isi T.ot) T.n_isinstance bt_isinstance (da_cons (dv 1) (da_cons (d_ty T.n_list bt_list) da_nil))) (d_callB call_isiA (l_isi T.ot) T.n_isinstance bt_isinstance (da_cons (dv 0) (da_cons (d_ty T.n_list bt_list) da_nil))))))) (s_one (s_ret d_bl)) s_nil)
    (s_cons (s_if (t_cmp (op_neA hr.units) l_eq (d_callB call_len l_len T.n_len bt_len (da_cons (dv 0) da_nil)) (d_callB call_len l_len T.n_len bt_len (da_cons (dv 1) da_nil))) (s_one (s_ret d_bl)) s_nil)
    (s_cons (s_for (passes_of rfl) rfl (i_zip T.n_zip (da_cons (dv 0) (da_cons (dv 1) da_nil))) (g_tup (n := 2) rfl (g_cons (g_name 2 sc__law_same.nd) (g_cons (g_name 3 sc__law_same.nd) g_nil))) (s_one (s_if (t_not (t_val (d_call G__law_same hr T.m__law_same T.F__law_same.kp T.b__law_same tkF (da_cons (dv 2) (da_cons (dv 3) da_nil))))) (s_one (s_ret d_bl)) s_nil)))
    (s_one (s_ret d_bl))))))))))
theorem w__law_odd (T : Tx K mg A) (G__law_take : FnD P w K mg base 1 T.a__law_take T.fd__law_take [Str.ofString "_law_hand_here", Str.ofString "_law_many"] (sp__law_take A)) (cdv : Value) (An : Around) (outer : List Env) (s : Shared) (H : Hp) (E : XK) (hr : RoomG 1 (An.deeper (envOfC "_law_odd" (defScope s__law_odd) s.heap.objs.size T.a__law_odd cdv))) :
    PSs (cxOf (L2.CX P w) P w K mg base N__law_odd "_law_odd" (defScope s__law_odd) T.a__law_odd cdv An outer s H E) (defBody s__law_odd) (lowS K (WF E) (r__law_odd A)) :=
  (s_cons (s_set 1 sc__law_odd.nd (d_call G__law_take (hr.mono (by decide)) T.m__law_take T.F__law_take.kp T.b__law_take tkF (da_cons (dv 0) (da_cons d_int da_nil))))
    (s_cons (s_if (t_cmp op_lt l_cmp (dv 1) d_int) (s_one (s_ret (d_ix (d_lstV (da_cons d_non (da_cons d_bl (da_cons d_bl (da_cons d_str (da_cons d_str (da_cons d_str da_nil))))))) (dv 1)))) s_nil)
    (s_cons (s_if (t_cmp op_lt l_cmp (dv 1) d_int) (s_one (s_ret (d_ix (d_lstV (da_cons (d_tup da_nil) (da_cons (d_lstV da_nil) (da_cons d_dict0 (da_cons (d_tup (da_cons d_int da_nil)) (da_cons (d_lstV (da_cons d_int da_nil)) (da_cons (d_tup (da_cons (d_tup da_nil) da_nil)) da_nil))))))) (d_op op_sub l_sub (dv 1) d_int)))) s_nil)
    (s_cons (s_if (t_cmp op_lt l_cmp (dv 1) d_int) (s_one (s_ret (d_ix (d_lstV (da_cons (d_neg d_int) (da_cons d_int (da_cons (d_neg d_int) (da_cons (d_op op_sub l_sub (d_op op_pow l_pow d_int d_int) d_int) (da_cons (d_op op_sub l_sub d_int (d_op op_pow l_pow d_int d_int)) (da_cons d_int da_nil))))))) (d_op op_sub l_sub (dv 1) d_int)))) s_nil)
    (s_cons (s_if (t_cmp (op_eqA hr.units) l_eq (dv 1) d_int) (s_one (s_ret (d_lstV (da_cons (d_op op_mulS l_mulS d_str d_int) (da_cons (d_tup (da_cons d_non (da_cons d_int da_nil))) da_nil))))) s_nil)
    (s_one (s_ret (d_dict1 d_str (d_tup da_nil)))))))))
theorem w__law_ground_sign (T : Tx K mg A) (G__law_take : FnD P w K mg base 1 T.a__law_take T.fd__law_take [Str.ofString "_law_hand_here", Str.ofString "_law_many"] (sp__law_take A)) (cdv : Value) (An : Around) (outer : List Env) (s : Shared) (H : Hp) (E : XK) (hr : RoomG 1 (An.deeper (envOfC "_law_ground_sign" (defScope s__law_ground_sign) s.heap.objs.size T.a__law_ground_sign cdv))) :
    PSs (cxOf (L2.CX P w) P w K mg base N__law_ground_sign "_law_ground_sign" (defScope s__law_ground_sign) T.a__law_ground_sign cdv An outer s H E) (defBody s__law_ground_sign) (lowS K (WF E) (r__law_ground_sign A)) :=
  (s_cons (s_set 2 sc__law_ground_sign.nd (d_call G__law_take (hr.mono (by decide)) T.m__law_take T.F__law_take.kp T.b__law_take tkF (da_cons (dv 0) (da_cons d_int da_nil))))
    (s_cons (s_if (t_cmp op_lt l_cmp (dv 2) (dv 1)) (s_one (s_ret d_str)) s_nil)
    (s_cons (s_if (t_cmp (op_eqA hr.units) l_eq (dv 2) d_int) (s_one (s_ret (d_ix d_str (d_call G__law_take (hr.mono (by decide)) T.m__law_take T.F__law_take.kp T.b__law_take tkF (da_cons (dv 0) (da_cons d_int da_nil)))))) s_nil)
    (s_one (s_ret d_str)))))
theorem w__law_rows (T : Tx K mg A) (G__law_take : FnD P w K mg base 1 T.a__law_take T.fd__law_take [Str.ofString "_law_hand_here", Str.ofString "_law_many"] (sp__law_take A)) (G__law_ground_sign : FnD P w K mg base 2 T.a__law_ground_sign T.fd__law_ground_sign [Str.ofString "_law_hand_here", Str.ofString "_law_full"] (sp__law_ground_sign A)) (cdv : Value) (An : Around) (outer : List Env) (s : Shared) (H : Hp) (E : XK) (hr : RoomG 2 (An.deeper (envOfC "_law_rows" (defScope s__law_rows) s.heap.objs.size T.a__law_rows cdv))) :
    PSs (cxOf (L2.CX P w) P w K mg base N__law_rows "_law_rows" (defScope s__law_rows) T.a__law_rows cdv An outer s H E) (defBody s__law_rows) (lowS K (WF E) (r__law_rows A)) :=
  (s_cons (s_set 3 sc__law_rows.nd (d_call G__law_take (hr.mono (by decide)) T.m__law_take T.F__law_take.kp T.b__law_take tkF (da_cons (dv 0) (da_cons d_int da_nil))))
    (s_cons (s_set 4 sc__law_rows.nd (d_lst da_nil))
    (s_cons (s_for (passes_of rfl) rfl (i_r1 T.n_range (da_cons (dv 2) da_nil)) (g_name 5 sc__law_rows.nd) (s_one (s_expr (d_bm PySem.F.slot_list_append PySem.F.type_list_append mt_append l_append (dv 4) (da_cons (d_join d_str (d_frz (d_lc (own := [(Str.ofString "_law_j", 6)]) rfl sc__law_rows.nd (i_r1 T.n_range (da_cons (dv 1) da_nil)) (blkOk_by (N := N__law_rows) (sc := defScope s__law_rows) (by decide +kernel)) (fun _ _ _ _ _ => (pg_name (i := 6) sc__law_rows.nd rfl (Or.inl rfl))) (ng_name (by decide)) (fun _ _ _ _ _ => c_nil) (fun _ _ _ _ _ => (d_call G__law_ground_sign (hr.mono (by decide)) T.m__law_ground_sign T.F__law_ground_sign.kp T.b__law_ground_sign takes0 (da_cons (dv 0) (da_cons (dv 3) da_nil))))))) da_nil)))))
    (s_one (s_ret (d_callTy call_tuple_of l_tuple T.n_tuple bt_tuple (da_cons (dv 4) da_nil)))))))
theorem w__law_ground (T : Tx K mg A) (G__law_take : FnD P w K mg base 1 T.a__law_take T.fd__law_take [Str.ofString "_law_hand_here", Str.ofString "_law_many"] (sp__law_take A)) (G__law_rows : FnD P w K mg base 3 T.a__law_rows T.fd__law_rows [Str.ofString "_law_hand_here", Str.ofString "_law_wide", Str.ofString "_law_high"] (sp__law_rows A)) (cdv : Value) (An : Around) (outer : List Env) (s : Shared) (H : Hp) (E : XK) (hr : RoomG 3 (An.deeper (envOfC "_law_ground" (defScope s__law_ground) s.heap.objs.size T.a__law_ground cdv))) :
    PSs (cxOf (L2.CX P w) P w K mg base N__law_ground "_law_ground" (defScope s__law_ground) T.a__law_ground cdv An outer s H E) (defBody s__law_ground) (lowS K (WF E) (r__law_ground A)) :=
  (s_cons (s_set 1 sc__law_ground.nd (d_call G__law_take (hr.mono (by decide)) T.m__law_take T.F__law_take.kp T.b__law_take tkF (da_cons (dv 0) (da_cons d_int da_nil))))
    (s_cons (s_if (t_cmp (op_eqA hr.units) l_eq (dv 1) d_int) (s_one (s_ret (d_call G__law_rows (hr.mono (by decide)) T.m__law_rows T.F__law_rows.kp T.b__law_rows tkF (da_cons (dv 0) (da_cons (d_opV op_addA l_addV d_int (d_call G__law_take (hr.mono (by decide)) T.m__law_take T.F__law_take.kp T.b__law_take tkF (da_cons (dv 0) (da_cons d_int da_nil)))) (da_cons (d_opV op_addA l_addV d_int (d_call G__law_take (hr.mono (by decide)) T.m__law_take T.F__law_take.kp T.b__law_take tkF (da_cons (dv 0) (da_cons d_int da_nil)))) da_nil)))))) s_nil)
    (s_cons (s_if (t_cmp (op_eqA hr.units) l_eq (dv 1) d_int) (s_one (s_ret (d_call G__law_rows (hr.mono (by decide)) T.m__law_rows T.F__law_rows.kp T.b__law_rows tkF (da_cons (dv 0) (da_cons d_int (da_cons d_int da_nil)))))) s_nil)
    (s_one (s_ret (d_call G__law_rows (hr.mono (by decide)) T.m__law_rows T.F__law_rows.kp T.b__law_rows tkF (da_cons (dv 0) (da_cons (d_opV op_addA l_addV d_int (d_call G__law_take (hr.mono (by decide)) T.m__law_take T.F__law_take.kp T.b__law_take tkF (da_cons (dv 0) (da_cons d_int da_nil)))) (da_cons (d_opV op_addA l_addV d_int (d_call G__law_take (hr.mono (by decide)) T.m__law_take T.F__law_take.kp T.b__law_take tkF (da_cons (dv 0) (da_cons d_int da_nil)))) da_nil)))))))))
theorem w__law_sign (T : Tx K mg A) (cdv : Value) (An : Around) (outer : List Env) (s : Shared) (H : Hp) (E : XK) (hr : RoomG 0 (An.deeper (envOfC "_law_sign" (defScope s__law_sign) s.heap.objs.size T.a__law_sign cdv))) :
    PSs (cxOf (L2.CX P w) P w K mg base N__law_sign "_law_sign" (defScope s__law_sign) T.a__law_sign cdv An outer s H E) (defBody s__law_sign) (lowS K (WF E) (r__law_sign A)) :=
  (s_cons (s_if (PW.pt (t_or (t_cmp op_lt l_cmp (dv 1) d_int) (t_or (t_cmp op_lt l_cmp (dv 2) d_int) (t_or (t_cmp op_ge l_cmp (dv 1) (d_opV op_mulB l_mulV d_int (d_callB call_len l_len T.n_len bt_len (da_cons (d_ix (dv 0) d_int) da_nil)))) (t_or1 (t_cmp op_ge l_cmp (dv 2) (d_opV op_mulB l_mulV d_int (d_callB call_len l_len T.n_len bt_len (da_cons (dv 0) da_nil))))))))) (s_one (s_ret d_str)) s_nil)
    (s_one (s_ret (d_ix (d_ix (dv 0) (d_op op_divP l_div (dv 2) d_int)) (d_op op_divP l_div (dv 1) d_int)))))
theorem w__law_first_bad (T : Tx K mg A) (cdv : Value) (An : Around) (outer : List Env) (s : Shared) (H : Hp) (E : XK) (hr : RoomG 0 (An.deeper (envOfC "_law_first_bad" (defScope s__law_first_bad) s.heap.objs.size T.a__law_first_bad cdv))) :
    PSs (cxOf (L2.CX P w) P w K mg base N__law_first_bad "_law_first_bad" (defScope s__law_first_bad) T.a__law_first_bad cdv An outer s H E) (defBody s__law_first_bad) (lowS K (WF E) (r__law_first_bad A)) :=
  (s_cons (s_if (PW.pt (t_or (t_not (t_val (d_callB call_isiA (l_isi T.ot) T.n_isinstance bt_isinstance (da_cons (dv 0) (da_cons (d_ty T.n_tuple bt_tuple) da_nil))))) (t_or (t_cmp op_lt l_cmp (d_callB call_len l_len T.n_len bt_len (da_cons (dv 0) da_nil)) d_int) (t_or1 (t_cmp op_gt l_cmp (d_callB call_len l_len T.n_len bt_len (da_cons (dv 0) da_nil)) d_int))))) (s_one (s_ret (d_neg d_int))) s_nil)
    (s_cons (s_for (passes_of rfl) rfl (i_r1 T.n_range (da_cons (d_callB call_len l_len T.n_len bt_len (da_cons (dv 0) da_nil)) da_nil)) (g_name 1 sc__law_first_bad.nd) (s_cons (s_set 2 sc__law_first_bad.nd (d_ix (dv 0) (dv 1)))
    (s_cons (s_if (PW.pt (t_or (t_not (t_val (d_callB call_isiA (l_isi T.ot) T.n_isinstance bt_isinstance (da_cons (dv 2) (da_cons (d_ty T.n_str bt_str) da_nil))))) (t_or (t_cmp op_lt l_cmp (d_callB call_len l_len T.n_len bt_len (da_cons (dv 2) da_nil)) d_int) (t_or (t_cmp op_gt l_cmp (d_callB call_len l_len T.n_len bt_len (da_cons (dv 2) da_nil)) d_int) (t_or1 (t_cmp (op_neA hr.units) l_eq (d_callB call_len l_len T.n_len bt_len (da_cons (dv 2) da_nil)) (d_callB call_len l_len T.n_len bt_len (da_cons (d_ix (dv 0) d_int) da_nil)))))))) (s_one (s_ret (dv 1))) s_nil)
    (s_one (s_if (t_cmp op_gt l_cmp (d_callB call_len l_len T.n_len bt_len (da_cons (d_frz (d_lc (own := [(Str.ofString "_law_sign_here", 3)]) rfl sc__law_first_bad.nd (i_str (dv 2)) (blkOk_by (N := N__law_first_bad) (sc := defScope s__law_first_bad) (by decide +kernel)) (fun _ _ _ _ _ => (pg_name (i := 3) sc__law_first_bad.nd rfl (Or.inl rfl))) (ng_name (by decide)) (fun _ _ _ _ _ => (c_one (t_cmp op_nin1 l_in1 (dv 3) d_str))) (fun _ _ _ _ _ => (dv 3)))) da_nil)) d_int) (s_one (s_ret (dv 1))) s_nil)))))
    (s_one (s_ret d_non))))
theorem w__law_large (T : Tx K mg A) (G__law_take : FnD P w K mg base 1 T.a__law_take T.fd__law_take [Str.ofString "_law_hand_here", Str.ofString "_law_many"] (sp__law_take A)) (G__law_ground : FnD P w K mg base 4 T.a__law_ground T.fd__law_ground [Str.ofString "_law_hand_here"] (sp__law_ground A)) (cdv : Value) (An : Around) (outer : List Env) (s : Shared) (H : Hp) (E : XK) (hr : RoomG 4 (An.deeper (envOfC "_law_large" (defScope s__law_large) s.heap.objs.size T.a__law_large cdv))) :
    PSs (cxOf (L2.CX P w) P w K mg base N__law_large "_law_large" (defScope s__law_large) T.a__law_large cdv An outer s H E) (defBody s__law_large) (lowS K (WF E) (r__law_large A)) :=
  (s_cons (s_set 1 sc__law_large.nd (d_call G__law_ground (hr.mono (by decide)) T.m__law_ground T.F__law_ground.kp T.b__law_ground tkF (da_cons (dv 0) da_nil)))
    (s_cons (s_set 2 sc__law_large.nd (d_call G__law_take (hr.mono (by decide)) T.m__law_take T.F__law_take.kp T.b__law_take tkF (da_cons (dv 0) (da_cons d_int da_nil))))
    (s_cons (s_if (t_cmp (op_eqA hr.units) l_eq (dv 2) d_int) (s_one (s_ret (d_callTy call_tuple_of l_tuple T.n_tuple bt_tuple (da_cons (d_frz (d_lc (own := [(Str.ofString "_law_row", 3)]) rfl sc__law_large.nd (i_seq (dv 1)) (blkOk_by (N := N__law_large) (sc := defScope s__law_large) (by decide +kernel)) (fun _ _ _ _ _ => (pg_name (i := 3) sc__law_large.nd rfl (Or.inl rfl))) (ng_name (by decide)) (fun _ _ _ _ _ => c_nil) (fun _ _ _ _ _ => (d_slV (d_op op_mulS l_mulS (dv 3) d_int) o_none (o_some d_int))))) da_nil)))) s_nil)
    (s_cons (s_if (t_cmp (op_eqA hr.units) l_eq (dv 2) d_int) (s_one (s_ret (d_slV (d_opV op_mulB l_mulV (dv 1) d_int) o_none (o_some d_int)))) s_nil)
    (s_one (s_ret (dv 1)))))))
theorem w__law_spoiled (T : Tx K mg A) (G__law_take : FnD P w K mg base 1 T.a__law_take T.fd__law_take [Str.ofString "_law_hand_here", Str.ofString "_law_many"] (sp__law_take A)) (G__law_odd : FnD P w K mg base 2 T.a__law_odd T.fd__law_odd [Str.ofString "_law_hand_here"] (sp__law_odd A)) (cdv : Value) (An : Around) (outer : List Env) (s : Shared) (H : Hp) (E : XK) (hr : RoomG 2 (An.deeper (envOfC "_law_spoiled" (defScope s__law_spoiled) s.heap.objs.size T.a__law_spoiled cdv))) :
    PSs (cxOf (L2.CX P w) P w K mg base N__law_spoiled "_law_spoiled" (defScope s__law_spoiled) T.a__law_spoiled cdv An outer s H E) (defBody s__law_spoiled) (lowS K (WF E) (r__law_spoiled A)) :=
  (s_cons (s_set 2 sc__law_spoiled.nd (d_call G__law_take (hr.mono (by decide)) T.m__law_take T.F__law_take.kp T.b__law_take tkF (da_cons (dv 0) (da_cons d_int da_nil))))
    (s_cons (s_set 3 sc__law_spoiled.nd (d_call G__law_take (hr.mono (by decide)) T.m__law_take T.F__law_take.kp T.b__law_take tkF (da_cons (dv 0) (da_cons (d_callB call_len l_len T.n_len bt_len (da_cons (dv 1) da_nil)) da_nil))))
    (s_cons (s_set 4 sc__law_spoiled.nd (d_call G__law_take (hr.mono (by decide)) T.m__law_take T.F__law_take.kp T.b__law_take tkF (da_cons (dv 0) (da_cons (d_callB call_len l_len T.n_len bt_len (da_cons (d_ix (dv 1) (dv 3)) da_nil)) da_nil))))
    (s_cons (s_set 5 sc__law_spoiled.nd (d_ix (dv 1) (dv 3)))
    (s_cons (s_if (t_cmp (op_eqA hr.units) l_eq (dv 2) d_int) (s_one (s_set 5 sc__law_spoiled.nd (d_opV op_addA l_addV (d_opV op_addA l_addV (d_slV (dv 5) o_none (o_some (dv 4))) (d_ix d_str (d_call G__law_take (hr.mono (by decide)) T.m__law_take T.F__law_take.kp T.b__law_take tkF (da_cons (dv 0) (da_cons d_int da_nil))))) (d_slV (dv 5) (o_some (d_opV op_addA l_addV (dv 4) d_int)) o_none)))) (s_one (s_if (t_cmp (op_eqA hr.units) l_eq (dv 2) d_int) (s_one (s_set 5 sc__law_spoiled.nd (d_opV op_addA l_addV (d_slV (dv 5) o_none (o_some (dv 4))) (d_slV (dv 5) (o_some (d_opV op_addA l_addV (dv 4) d_int)) o_none)))) (s_one (s_if (t_cmp (op_eqA hr.units) l_eq (dv 2) d_int) (s_one (s_set 5 sc__law_spoiled.nd (d_opV op_addA l_addV (d_opV op_addA l_addV (d_slV (dv 5) o_none (o_some (dv 4))) d_str) (d_slV (dv 5) (o_some (dv 4)) o_none)))) (s_one (s_if (t_cmp (op_eqA hr.units) l_eq (dv 2) d_int) (s_one (s_set 5 sc__law_spoiled.nd (d_call G__law_odd (hr.mono (by decide)) T.m__law_odd T.F__law_odd.kp T.b__law_odd tkF (da_cons (dv 0) da_nil)))) (s_one (s_if (t_cmp (op_eqA hr.units) l_eq (dv 2) d_int) (s_one (s_ret (d_callTyV call_list_of l_listV T.n_list bt_list (da_cons (dv 1) da_nil)))) (s_one (s_if (t_cmp (op_eqA hr.units) l_eq (dv 2) d_int) (s_one (s_ret (d_slV (d_opV op_mulB l_mulV (dv 1) d_int) o_none (o_some (d_opV op_addA l_addV d_int (d_call G__law_take (hr.mono (by decide)) T.m__law_take T.F__law_take.kp T.b__law_take tkF (da_cons (dv 0) (da_cons d_int da_nil)))))))) (s_one (s_if (t_cmp (op_eqA hr.units) l_eq (dv 2) d_int) (s_one (s_ret (d_callTy call_tuple_of l_tuple T.n_tuple bt_tuple (da_cons (d_frz (d_lc (own := [(Str.ofString "_law_row", 6)]) rfl sc__law_spoiled.nd (i_seq (dv 1)) (blkOk_by (N := N__law_spoiled) (sc := defScope s__law_spoiled) (by decide +kernel)) (fun _ _ _ _ _ => (pg_name (i := 6) sc__law_spoiled.nd rfl (Or.inl rfl))) (ng_name (by decide)) (fun _ _ _ _ _ => c_nil) (fun _ _ _ _ _ => (d_slV (d_op op_mulS l_mulS (dv 6) d_int) o_none (o_some (d_opV op_addA l_addV (d_opV op_addA l_addV d_int (d_op op_mod l_mod (dv 2) d_int)) (d_op op_mod l_mod (dv 4) d_int))))))) da_nil)))) (s_one (s_if (t_cmp (op_eqA hr.units) l_eq (dv 2) d_int) (s_one (s_ret (d_call G__law_odd (hr.mono (by decide)) T.m__law_odd T.F__law_odd.kp T.b__law_odd tkF (da_cons (dv 0) da_nil)))) s_nil)))))))))))))))
    (s_one (s_ret (d_opV op_addA l_addV (d_opV op_addA l_addV (d_slV (dv 1) o_none (o_some (dv 3))) (d_tup (da_cons (dv 5) da_nil))) (d_slV (dv 1) (o_some (d_opV op_addA l_addV (dv 3) d_int)) o_none)))))))))
theorem w__law_made (T : Tx K mg A) (G_Ground_init : FnD P w K mg base 3 T.a_Ground_init T.fd_Ground_init [Str.ofString "self", Str.ofString "rows"] (sp_Ground_init A)) (cdv : Value) (An : Around) (outer : List Env) (s : Shared) (H : Hp) (E : XK) (hr : RoomG 4 (An.deeper (envOfC "_law_made" (defScope s__law_made) s.heap.objs.size T.a__law_made cdv))) :
    PSs (cxOf (L2.CX P w) P w K mg base N__law_made "_law_made" (defScope s__law_made) T.a__law_made cdv An outer s H E) (defBody s__law_made) (lowS K (WF E) (r__law_made A)) :=
  (s_one (s_take 2 sc__law_made.nd (nm_own T.m_BadGround) (tabs_cons T.e_BadGround_BadGround tabs_nil) (fun W2 pn2 xe2 tk2 => (s_cons (s_set 1 sc__law_made.nd (d_mkM (mk_Ground A) T.mk_Ground G_Ground_init (hr.mono (by decide)) T.m_Ground T.b_Ground_init tk2 (da_cons (dv 0) da_nil)))
    (s_one (s_ret (d_tup (da_cons d_str (da_cons (d_fld (fcs_cons T.c_Ground T.na_Ground_rows fcs_nil) (dv 1)) (da_cons (d_fld (fcs_cons T.c_Ground T.na_Ground_wide fcs_nil) (dv 1)) (da_cons (d_fld (fcs_cons T.c_Ground T.na_Ground_high fcs_nil) (dv 1)) da_nil))))))))) (fun ea oe ecls eda pn hz hf => (s_one (s_ret (d_tup (da_cons d_str (da_cons (d_xf T.z_BadGround T.nf_BadGround hz hf (dv 2)) da_nil))))))))
theorem w__law_signed (T : Tx K mg A) (G_sign_at : FnD P w K mg base 3 T.a_sign_at T.fd_sign_at [Str.ofString "ground", Str.ofString "x", Str.ofString "y"] (sp_sign_at A)) (cdv : Value) (An : Around) (outer : List Env) (s : Shared) (H : Hp) (E : XK) (hr : RoomG 3 (An.deeper (envOfC "_law_signed" (defScope s__law_signed) s.heap.objs.size T.a__law_signed cdv))) :
    PSs (cxOf (L2.CX P w) P w K mg base N__law_signed "_law_signed" (defScope s__law_signed) T.a__law_signed cdv An outer s H E) (defBody s__law_signed) (lowS K (WF E) (r__law_signed A)) :=
  (s_one (s_try tkF (fun W2 pn2 xe2 tk2 => (s_one (s_ret (d_tup (da_cons d_str (da_cons (d_call G_sign_at (hr.mono (by decide)) T.m_sign_at T.F_sign_at.kp T.b_sign_at tk2 (da_cons (dv 0) (da_cons (dv 1) (da_cons (dv 2) da_nil)))) da_nil)))))) (.cons (nm_own T.m_NoNumber) (tabs_cons T.e_NoNumber_NoNumber tabs_nil) (fun _ _ => (s_one (s_ret (d_tup (da_cons d_str da_nil))))) .nil)))
theorem w__law_opened (T : Tx K mg A) (G_is_open : FnD P w K mg base 4 T.a_is_open T.fd_is_open [Str.ofString "ground", Str.ofString "x", Str.ofString "y", Str.ofString "wide", Str.ofString "high"] (sp_is_open A)) (cdv : Value) (An : Around) (outer : List Env) (s : Shared) (H : Hp) (E : XK) (hr : RoomG 4 (An.deeper (envOfC "_law_opened" (defScope s__law_opened) s.heap.objs.size T.a__law_opened cdv))) :
    PSs (cxOf (L2.CX P w) P w K mg base N__law_opened "_law_opened" (defScope s__law_opened) T.a__law_opened cdv An outer s H E) (defBody s__law_opened) (lowS K (WF E) (r__law_opened A)) :=
  (s_one (s_try tkF (fun W2 pn2 xe2 tk2 => (s_one (s_ret (d_tup (da_cons d_str (da_cons (d_call G_is_open (hr.mono (by decide)) T.m_is_open T.F_is_open.kp T.b_is_open tk2 (da_cons (dv 0) (da_cons (dv 1) (da_cons (dv 2) (da_cons (dv 3) (da_cons (dv 4) da_nil)))))) da_nil)))))) (.cons (nm_own T.m_NoNumber) (tabs_cons T.e_NoNumber_NoNumber tabs_nil) (fun _ _ => (s_one (s_ret (d_tup (da_cons d_str da_nil))))) .nil)))
theorem w__law_units_open (T : Tx K mg A) (G__law_sign : FnD P w K mg base 1 T.a__law_sign T.fd__law_sign [Str.ofString "_law_rows_here", Str.ofString "_law_x", Str.ofString "_law_y"] (sp__law_sign A)) (cdv : Value) (An : Around) (outer : List Env) (s : Shared) (H : Hp) (E : XK) (hr : RoomG 1 (An.deeper (envOfC "_law_units_open" (defScope s__law_units_open) s.heap.objs.size T.a__law_units_open cdv))) :
    PSs (cxOf (L2.CX P w) P w K mg base N__law_units_open "_law_units_open" (defScope s__law_units_open) T.a__law_units_open cdv An outer s H E) (defBody s__law_units_open) (lowS K (WF E) (r__law_units_open A)) :=
  (s_cons (s_for (passes_of rfl) rfl (i_r1 T.n_range (da_cons (dv 3) da_nil)) (g_name 5 sc__law_units_open.nd) (s_one (s_for (passes_of rfl) rfl (i_r1 T.n_range (da_cons (dv 4) da_nil)) (g_name 6 sc__law_units_open.nd) (s_one (s_if (t_cmp (op_eqA hr.units) l_eq (d_call G__law_sign (hr.mono (by decide)) T.m__law_sign T.F__law_sign.kp T.b__law_sign tkF (da_cons (dv 0) (da_cons (d_opV op_addA l_addV (dv 1) (dv 5)) (da_cons (d_opV op_addA l_addV (dv 2) (dv 6)) da_nil)))) d_str) (s_one (s_ret d_bl)) s_nil)))))
    (s_one (s_ret d_bl)))
theorem w__law_where (T : Tx K mg A) (G__law_take : FnD P w K mg base 1 T.a__law_take T.fd__law_take [Str.ofString "_law_hand_here", Str.ofString "_law_many"] (sp__law_take A)) (G__law_pick : FnD P w K mg base 2 T.a__law_pick T.fd__law_pick [Str.ofString "_law_hand_here", Str.ofString "_law_things"] (sp__law_pick A)) (G__law_great : FnD P w K mg base 2 T.a__law_great T.fd__law_great [Str.ofString "_law_hand_here"] (sp__law_great A)) (cdv : Value) (An : Around) (outer : List Env) (s : Shared) (H : Hp) (E : XK) (hr : RoomG 2 (An.deeper (envOfC "_law_where" (defScope s__law_where) s.heap.objs.size T.a__law_where cdv))) :
    PSs (cxOf (L2.CX P w) P w K mg base N__law_where "_law_where" (defScope s__law_where) T.a__law_where cdv An outer s H E) (defBody s__law_where) (lowS K (WF E) (r__law_where A)) :=
  (s_cons (s_set 2 sc__law_where.nd (d_call G__law_take (hr.mono (by decide)) T.m__law_take T.F__law_take.kp T.b__law_take tkF (da_cons (dv 0) (da_cons d_int da_nil))))
    (s_cons (s_if (t_cmp (op_eqA hr.units) l_eq (dv 2) d_int) (s_one (s_ret (d_opV op_mulB l_mulV (d_call G__law_great (hr.mono (by decide)) T.m__law_great T.F__law_great.kp T.b__law_great tkF (da_cons (dv 0) da_nil)) (d_op op_sub l_sub d_int (d_opV op_mulB l_mulV d_int (d_call G__law_take (hr.mono (by decide)) T.m__law_take T.F__law_take.kp T.b__law_take tkF (da_cons (dv 0) (da_cons d_int da_nil)))))))) s_nil)
    (s_cons (s_if (t_cmp (op_eqA hr.units) l_eq (dv 2) d_int) (s_one (s_ret (d_call G__law_pick (hr.mono (by decide)) T.m__law_pick T.F__law_pick.kp T.b__law_pick tkF (da_cons (dv 0) (da_cons (d_lstV (da_cons (d_neg d_int) (da_cons d_int (da_cons (d_op op_sub l_sub (d_opV op_mulB l_mulV d_int (dv 1)) d_int) (da_cons (d_opV op_mulB l_mulV d_int (dv 1)) (da_cons (d_op op_sub l_sub (d_opV op_mulB l_mulV d_int (dv 1)) d_int) da_nil)))))) da_nil))))) s_nil)
    (s_one (s_ret (d_op op_sub l_sub (d_call G__law_take (hr.mono (by decide)) T.m__law_take T.F__law_take.kp T.b__law_take tkF (da_cons (dv 0) (da_cons (d_opV op_addA l_addV (d_opV op_mulB l_mulV d_int (dv 1)) d_int) da_nil))) d_int))))))
theorem w__law_side (T : Tx K mg A) (G__law_take : FnD P w K mg base 1 T.a__law_take T.fd__law_take [Str.ofString "_law_hand_here", Str.ofString "_law_many"] (sp__law_take A)) (G__law_pick : FnD P w K mg base 2 T.a__law_pick T.fd__law_pick [Str.ofString "_law_hand_here", Str.ofString "_law_things"] (sp__law_pick A)) (cdv : Value) (An : Around) (outer : List Env) (s : Shared) (H : Hp) (E : XK) (hr : RoomG 2 (An.deeper (envOfC "_law_side" (defScope s__law_side) s.heap.objs.size T.a__law_side cdv))) :
    PSs (cxOf (L2.CX P w) P w K mg base N__law_side "_law_side" (defScope s__law_side) T.a__law_side cdv An outer s H E) (defBody s__law_side) (lowS K (WF E) (r__law_side A)) :=
  (s_cons (s_if (t_cmp (op_eqA hr.units) l_eq (d_call G__law_take (hr.mono (by decide)) T.m__law_take T.F__law_take.kp T.b__law_take tkF (da_cons (dv 0) (da_cons d_int da_nil))) d_int) (s_one (s_ret (d_call G__law_pick (hr.mono (by decide)) T.m__law_pick T.F__law_pick.kp T.b__law_pick tkF (da_cons (dv 0) (da_cons (d_lstV (da_cons d_int (da_cons d_int (da_cons d_int (da_cons d_int (da_cons (d_neg d_int) (da_cons d_bl (da_cons d_non (da_cons d_int (da_cons d_int da_nil)))))))))) da_nil))))) s_nil)
    (s_one (s_ret (d_opV op_addA l_addV d_int (d_call G__law_take (hr.mono (by decide)) T.m__law_take T.F__law_take.kp T.b__law_take tkF (da_cons (dv 0) (da_cons d_int da_nil)))))))
theorem w__law_asked (T : Tx K mg A) (G__law_take : FnD P w K mg base 1 T.a__law_take T.fd__law_take [Str.ofString "_law_hand_here", Str.ofString "_law_many"] (sp__law_take A)) (G__law_is_integer : FnD P w K mg base 1 T.a__law_is_integer T.fd__law_is_integer [Str.ofString "_law_thing"] (sp__law_is_integer A)) (G__law_is_within : FnD P w K mg base 2 T.a__law_is_within T.fd__law_is_within [Str.ofString "_law_thing", Str.ofString "_law_least", Str.ofString "_law_most"] (sp__law_is_within A)) (G__law_same : FnD P w K mg base 4 T.a__law_same T.fd__law_same [Str.ofString "_law_actual", Str.ofString "_law_due"] (sp__law_same A 3)) (G__law_odd : FnD P w K mg base 2 T.a__law_odd T.fd__law_odd [Str.ofString "_law_hand_here"] (sp__law_odd A)) (G__law_sign : FnD P w K mg base 1 T.a__law_sign T.fd__law_sign [Str.ofString "_law_rows_here", Str.ofString "_law_x", Str.ofString "_law_y"] (sp__law_sign A)) (G__law_signed : FnD P w K mg base 4 T.a__law_signed T.fd__law_signed [Str.ofString "_law_ground_here", Str.ofString "_law_x", Str.ofString "_law_y"] (sp__law_signed A)) (G__law_opened : FnD P w K mg base 5 T.a__law_opened T.fd__law_opened [Str.ofString "_law_ground_here", Str.ofString "_law_x", Str.ofString "_law_y", Str.ofString "_law_wide", Str.ofString "_law_high"] (sp__law_opened A)) (G__law_units_open : FnD P w K mg base 2 T.a__law_units_open T.fd__law_units_open [Str.ofString "_law_rows_here", Str.ofString "_law_x", Str.ofString "_law_y", Str.ofString "_law_wide", Str.ofString "_law_high"] (sp__law_units_open A)) (G__law_where : FnD P w K mg base 3 T.a__law_where T.fd__law_where [Str.ofString "_law_hand_here", Str.ofString "_law_long"] (sp__law_where A)) (G__law_side : FnD P w K mg base 3 T.a__law_side T.fd__law_side [Str.ofString "_law_hand_here"] (sp__law_side A)) (cdv : Value) (An : Around) (outer : List Env) (s : Shared) (H : Hp) (E : XK) (hr : RoomG 5 (An.deeper (envOfC "_law_asked" (defScope s__law_asked) s.heap.objs.size T.a__law_asked cdv))) :
    PSs (cxOf (L2.CX P w) P w K mg base N__law_asked "_law_asked" (defScope s__law_asked) T.a__law_asked cdv An outer s H E) (defBody s__law_asked) (lowS K (WF E) (r__law_asked A)) :=
  (s_cons (s_set 3 sc__law_asked.nd (d_call G__law_where (hr.mono (by decide)) T.m__law_where T.F__law_where.kp T.b__law_where tkF (da_cons (dv 0) (da_cons (d_callB call_len l_len T.n_len bt_len (da_cons (d_ix (dv 1) d_int) da_nil)) da_nil))))
    (s_cons (s_set 4 sc__law_asked.nd (d_call G__law_where (hr.mono (by decide)) T.m__law_where T.F__law_where.kp T.b__law_where tkF (da_cons (dv 0) (da_cons (d_callB call_len l_len T.n_len bt_len (da_cons (dv 1) da_nil)) da_nil))))
    (s_cons (s_set 5 sc__law_asked.nd (d_call G__law_side (hr.mono (by decide)) T.m__law_side T.F__law_side.kp T.b__law_side tkF (da_cons (dv 0) da_nil)))
    (s_cons (s_set 6 sc__law_asked.nd (d_call G__law_side (hr.mono (by decide)) T.m__law_side T.F__law_side.kp T.b__law_side tkF (da_cons (dv 0) da_nil)))
    (s_cons (s_if (t_cmp (op_eqA hr.units) l_eq (d_call G__law_take (hr.mono (by decide)) T.m__law_take T.F__law_take.kp T.b__law_take tkF (da_cons (dv 0) (da_cons d_int da_nil))) d_int) (s_one (s_set 3 sc__law_asked.nd (d_call G__law_odd (hr.mono (by decide)) T.m__law_odd T.F__law_odd.kp T.b__law_odd tkF (da_cons (dv 0) da_nil)))) s_nil)
    (s_cons (s_if (t_cmp (op_eqA hr.units) l_eq (d_call G__law_take (hr.mono (by decide)) T.m__law_take T.F__law_take.kp T.b__law_take tkF (da_cons (dv 0) (da_cons d_int da_nil))) d_int) (s_one (s_set 4 sc__law_asked.nd (d_call G__law_odd (hr.mono (by decide)) T.m__law_odd T.F__law_odd.kp T.b__law_odd tkF (da_cons (dv 0) da_nil)))) s_nil)
    (s_cons (s_set 7 sc__law_asked.nd (d_tup (da_cons d_str da_nil)))
    (s_cons (s_set 8 sc__law_asked.nd (d_tup (da_cons d_str da_nil)))
    (s_cons (s_if (PW.pt (t_and (t_val (d_call G__law_is_integer (hr.mono (by decide)) T.m__law_is_integer T.F__law_is_integer.kp T.b__law_is_integer tkF (da_cons (dv 3) da_nil))) (t_and1 (t_val (d_call G__law_is_integer (hr.mono (by decide)) T.m__law_is_integer T.F__law_is_integer.kp T.b__law_is_integer tkF (da_cons (dv 4) da_nil)))))) (s_cons (s_set 7 sc__law_asked.nd (d_tup (da_cons d_str (da_cons (d_call G__law_sign (hr.mono (by decide)) T.m__law_sign T.F__law_sign.kp T.b__law_sign tkF (da_cons (dv 1) (da_cons (dv 3) (da_cons (dv 4) da_nil)))) da_nil))))
    (s_one (s_if (PW.pt (t_and (t_val (d_call G__law_is_within (hr.mono (by decide)) T.m__law_is_within T.F__law_is_within.kp T.b__law_is_within tkF (da_cons (dv 5) (da_cons d_int (da_cons d_int da_nil))))) (t_and1 (t_val (d_call G__law_is_within (hr.mono (by decide)) T.m__law_is_within T.F__law_is_within.kp T.b__law_is_within tkF (da_cons (dv 6) (da_cons d_int (da_cons d_int da_nil)))))))) (s_one (s_set 8 sc__law_asked.nd (d_tup (da_cons d_str (da_cons (d_call G__law_units_open (hr.mono (by decide)) T.m__law_units_open T.F__law_units_open.kp T.b__law_units_open tkF (da_cons (dv 1) (da_cons (dv 3) (da_cons (dv 4) (da_cons (dv 5) (da_cons (dv 6) da_nil)))))) da_nil))))) s_nil))) s_nil)
    (s_cons (s_if (t_not (t_val (d_call G__law_same (hr.mono (by decide)) T.m__law_same T.F__law_same.kp T.b__law_same tkF (da_cons (d_call G__law_signed (hr.mono (by decide)) T.m__law_signed T.F__law_signed.kp T.b__law_signed tkF (da_cons (dv 2) (da_cons (dv 3) (da_cons (dv 4) da_nil)))) (da_cons (dv 7) da_nil))))) (s_one (s_ret d_bl)) s_nil)
    (s_one (s_ret (d_call G__law_same (hr.mono (by decide)) T.m__law_same T.F__law_same.kp T.b__law_same tkF (da_cons (d_call G__law_opened (hr.mono (by decide)) T.m__law_opened T.F__law_opened.kp T.b__law_opened tkF (da_cons (dv 2) (da_cons (dv 3) (da_cons (dv 4) (da_cons (dv 5) (da_cons (dv 6) da_nil)))))) (da_cons (dv 8) da_nil)))))))))))))))
theorem w_law (T : Tx K mg A) (G_Ground_init : FnD P w K mg base 3 T.a_Ground_init T.fd_Ground_init [Str.ofString "self", Str.ofString "rows"] (sp_Ground_init A)) (G_Ground_eq : FnD P w K mg base 1 T.a_Ground_eq T.fd_Ground_eq [Str.ofString "self", Str.ofString "other"] (sp_Ground_eq A)) (G__law_hand : FnD P w K mg base 1 T.a__law_hand T.fd__law_hand [Str.ofString "_law_script"] (sp__law_hand A)) (G__law_same : FnD P w K mg base 4 T.a__law_same T.fd__law_same [Str.ofString "_law_actual", Str.ofString "_law_due"] (sp__law_same A 3)) (G__law_first_bad : FnD P w K mg base 1 T.a__law_first_bad T.fd__law_first_bad [Str.ofString "_law_thing"] (sp__law_first_bad A)) (G__law_large : FnD P w K mg base 5 T.a__law_large T.fd__law_large [Str.ofString "_law_hand_here"] (sp__law_large A)) (G__law_spoiled : FnD P w K mg base 3 T.a__law_spoiled T.fd__law_spoiled [Str.ofString "_law_hand_here", Str.ofString "_law_rows_here"] (sp__law_spoiled A)) (G__law_made : FnD P w K mg base 5 T.a__law_made T.fd__law_made [Str.ofString "_law_rows_here"] (sp__law_made A)) (G__law_asked : FnD P w K mg base 6 T.a__law_asked T.fd__law_asked [Str.ofString "_law_hand_here", Str.ofString "_law_rows_here", Str.ofString "_law_ground_here"] (sp__law_asked A)) (cdv : Value) (An : Around) (outer : List Env) (s : Shared) (H : Hp) (E : XK) (hr : RoomG 6 (An.deeper (envOfC "law" (defScope s_law) s.heap.objs.size T.a_law cdv))) :
    PSs (cxOf (L2.CX P w) P w K mg base N_law "law" (defScope s_law) T.a_law cdv An outer s H E) (defBody s_law) (lowS K (WF E) (r_law A)) :=
  (s_cons (s_set 1 sc_law.nd (d_call G__law_hand (hr.mono (by decide)) T.m__law_hand T.F__law_hand.kp T.b__law_hand tkF (da_cons (dv 0) da_nil)))
    (s_cons (s_set 2 sc_law.nd (d_call G__law_large (hr.mono (by decide)) T.m__law_large T.F__law_large.kp T.b__law_large tkF (da_cons (dv 1) da_nil)))
    (s_cons (s_set 3 sc_law.nd (d_call G__law_spoiled (hr.mono (by decide)) T.m__law_spoiled T.F__law_spoiled.kp T.b__law_spoiled tkF (da_cons (dv 1) (da_cons (dv 2) da_nil))))
    (s_cons (s_set 4 sc_law.nd (d_call G__law_first_bad (hr.mono (by decide)) T.m__law_first_bad T.F__law_first_bad.kp T.b__law_first_bad tkF (da_cons (dv 3) da_nil)))
    (s_cons (s_set 5 sc_law.nd (d_tup (da_cons d_str (da_cons (dv 4) da_nil))))
    (s_cons (s_if (t_cmp op_isN l_isN (dv 4) d_non) (s_one (s_set 5 sc_law.nd (d_tup (da_cons d_str (da_cons (dv 3) (da_cons (d_opV op_mulB l_mulV d_int (d_callB call_len l_len T.n_len bt_len (da_cons (d_ix (dv 3) d_int) da_nil))) (da_cons (d_opV op_mulB l_mulV d_int (d_callB call_len l_len T.n_len bt_len (da_cons (dv 3) da_nil))) da_nil))))))) s_nil)
    (s_cons (s_if (t_not (t_val (d_call G__law_same (hr.mono (by decide)) T.m__law_same T.F__law_same.kp T.b__law_same tkF (da_cons (d_call G__law_made (hr.mono (by decide)) T.m__law_made T.F__law_made.kp T.b__law_made tkF (da_cons (dv 3) da_nil)) (da_cons (dv 5) da_nil))))) (s_one (s_ret d_bl)) s_nil)
    (s_cons (s_if (t_not (t_val (d_call G__law_same (hr.mono (by decide)) T.m__law_same T.F__law_same.kp T.b__law_same tkF (da_cons (d_call G__law_made (hr.mono (by decide)) T.m__law_made T.F__law_made.kp T.b__law_made tkF (da_cons (dv 2) da_nil)) (da_cons (d_tup (da_cons d_str (da_cons (dv 2) (da_cons (d_opV op_mulB l_mulV d_int (d_callB call_len l_len T.n_len bt_len (da_cons (d_ix (dv 2) d_int) da_nil))) (da_cons (d_opV op_mulB l_mulV d_int (d_callB call_len l_len T.n_len bt_len (da_cons (dv 2) da_nil))) da_nil))))) da_nil))))) (s_one (s_ret d_bl)) s_nil)
    (s_cons (s_set 6 sc_law.nd (d_mkM (mk_Ground A) T.mk_Ground G_Ground_init (hr.mono (by decide)) T.m_Ground T.b_Ground_init tkF (da_cons (dv 2) da_nil)))
    (s_cons (s_for (passes_of rfl) rfl (i_r1 T.n_range (da_cons d_int da_nil)) (g_name 7 sc_law.nd) (s_one (s_if (t_not (t_val (d_call G__law_asked (hr.mono (by decide)) T.m__law_asked T.F__law_asked.kp T.b__law_asked tkF (da_cons (dv 1) (da_cons (dv 2) (da_cons (dv 6) da_nil)))))) (s_one (s_ret d_bl)) s_nil)))
    (s_cons (s_if (PW.pt (t_and (t_cmp op_isN l_isN (dv 4) d_non) (t_and1 (t_cmp (op_neA hr.units) l_eq (d_cmp (op_own G_Ground_eq (hr.mono (by decide)) T.me_Ground_eq.at_ T.me_Ground_eq.fn T.b_Ground_eq) l_own (d_mkM (mk_Ground A) T.mk_Ground G_Ground_init (hr.mono (by decide)) T.m_Ground T.b_Ground_init tkF (da_cons (dv 3) da_nil)) (dv 6)) (d_cmp (op_eqA hr.units) l_eq (dv 3) (dv 2)))))) (s_one (s_ret d_bl)) s_nil)
    (s_one (s_ret (d_cmp (op_own G_Ground_eq (hr.mono (by decide)) T.me_Ground_eq.at_ T.me_Ground_eq.fn T.b_Ground_eq) l_own (d_mkM (mk_Ground A) T.mk_Ground G_Ground_init (hr.mono (by decide)) T.m_Ground T.b_Ground_init tkF (da_cons (dv 2) da_nil)) (dv 6)))))))))))))))
theorem all_mk_ok (T : Tx K mg A) : FnD P w K mg base 7 T.a_law T.fd_law ["_law_script"] spLaw := by
  have G_is_sized : FnD P w K mg base 1 T.a_is_sized T.fd_is_sized [Str.ofString "thing", Str.ofString "least", Str.ofString "most"] (sp_is_sized A) := okD T.F_is_sized sc_is_sized (len_is_sized A) _ (fun cdv An outer s H E hr => w_is_sized T  cdv An outer s H E hr) (rd_is_sized A)
  have G_is_row : FnD P w K mg base 1 T.a_is_row T.fd_is_row [Str.ofString "thing"] (sp_is_row A) := okD T.F_is_row sc_is_row (len_is_row A) _ (fun cdv An outer s H E hr => w_is_row T  cdv An outer s H E hr) (rd_is_row A)
  have G_Ground_init : FnD P w K mg base 3 T.a_Ground_init T.fd_Ground_init [Str.ofString "self", Str.ofString "rows"] (sp_Ground_init A) := okD T.F_Ground_init sc_Ground_init (len_Ground_init A) _ (fun cdv An outer s H E hr => w_Ground_init T G_is_sized G_is_row cdv An outer s H E hr) (rd_Ground_init A)
  have G_Ground_eq : FnD P w K mg base 1 T.a_Ground_eq T.fd_Ground_eq [Str.ofString "self", Str.ofString "other"] (sp_Ground_eq A) := okD T.F_Ground_eq sc_Ground_eq (len_Ground_eq A) _ (fun cdv An outer s H E hr => w_Ground_eq T  cdv An outer s H E hr) (rd_Ground_eq A T.otok)
  have G__law_hand : FnD P w K mg base 1 T.a__law_hand T.fd__law_hand [Str.ofString "_law_script"] (sp__law_hand A) := okD T.F__law_hand sc__law_hand (len__law_hand A) _ (fun cdv An outer s H E hr => w__law_hand T  cdv An outer s H E hr) (rd__law_hand A)
  have G__law_is_integer : FnD P w K mg base 1 T.a__law_is_integer T.fd__law_is_integer [Str.ofString "_law_thing"] (sp__law_is_integer A) := okD T.F__law_is_integer sc__law_is_integer (len__law_is_integer A) _ (fun cdv An outer s H E hr => w__law_is_integer T  cdv An outer s H E hr) (rd__law_is_integer A)
  have G__law_same : ∀ n, FnD P w K mg base (1 + n) T.a__law_same T.fd__law_same [Str.ofString "_law_actual", Str.ofString "_law_due"] (sp__law_same A n) := by
    intro n
    induction n with
    | zero => exact fn_never fun _ _ _ _ h => h
    | succ n ih => first | exact okD T.F__law_same sc__law_same (len__law_same A (n + 1)) _ (fun cdv An outer s H E hr => w__law_same T G__law_is_integer (1 + n) (Nat.le_add_right _ _) (sp__law_same A n) ih cdv An outer s H E hr) (rd__law_same A n)
  have G__law_first_bad : FnD P w K mg base 1 T.a__law_first_bad T.fd__law_first_bad [Str.ofString "_law_thing"] (sp__law_first_bad A) := okD T.F__law_first_bad sc__law_first_bad (len__law_first_bad A) _ (fun cdv An outer s H E hr => w__law_first_bad T  cdv An outer s H E hr) (rd__law_first_bad A)
  have G__law_take : FnD P w K mg base 1 T.a__law_take T.fd__law_take [Str.ofString "_law_hand_here", Str.ofString "_law_many"] (sp__law_take A) := okD T.F__law_take sc__law_take (len__law_take A) _ (fun cdv An outer s H E hr => w__law_take T  cdv An outer s H E hr) (rd__law_take A)
  have G__law_ground_sign : FnD P w K mg base 2 T.a__law_ground_sign T.fd__law_ground_sign [Str.ofString "_law_hand_here", Str.ofString "_law_full"] (sp__law_ground_sign A) := okD T.F__law_ground_sign sc__law_ground_sign (len__law_ground_sign A) _ (fun cdv An outer s H E hr => w__law_ground_sign T G__law_take cdv An outer s H E hr) (rd__law_ground_sign A)
  have G__law_rows : FnD P w K mg base 3 T.a__law_rows T.fd__law_rows [Str.ofString "_law_hand_here", Str.ofString "_law_wide", Str.ofString "_law_high"] (sp__law_rows A) := okD T.F__law_rows sc__law_rows (len__law_rows A) _ (fun cdv An outer s H E hr => w__law_rows T G__law_take G__law_ground_sign cdv An outer s H E hr) (rd__law_rows A)
  have G__law_ground : FnD P w K mg base 4 T.a__law_ground T.fd__law_ground [Str.ofString "_law_hand_here"] (sp__law_ground A) := okD T.F__law_ground sc__law_ground (len__law_ground A) _ (fun cdv An outer s H E hr => w__law_ground T G__law_take G__law_rows cdv An outer s H E hr) (rd__law_ground A)
  have G__law_large : FnD P w K mg base 5 T.a__law_large T.fd__law_large [Str.ofString "_law_hand_here"] (sp__law_large A) := okD T.F__law_large sc__law_large (len__law_large A) _ (fun cdv An outer s H E hr => w__law_large T G__law_take G__law_ground cdv An outer s H E hr) (rd__law_large A)
  have G__law_odd : FnD P w K mg base 2 T.a__law_odd T.fd__law_odd [Str.ofString "_law_hand_here"] (sp__law_odd A) := okD T.F__law_odd sc__law_odd (len__law_odd A) _ (fun cdv An outer s H E hr => w__law_odd T G__law_take cdv An outer s H E hr) (rd__law_odd A)
  have G__law_spoiled : FnD P w K mg base 3 T.a__law_spoiled T.fd__law_spoiled [Str.ofString "_law_hand_here", Str.ofString "_law_rows_here"] (sp__law_spoiled A) := okD T.F__law_spoiled sc__law_spoiled (len__law_spoiled A) _ (fun cdv An outer s H E hr => w__law_spoiled T G__law_take G__law_odd cdv An outer s H E hr) (rd__law_spoiled A)
  have G__law_made : FnD P w K mg base 5 T.a__law_made T.fd__law_made [Str.ofString "_law_rows_here"] (sp__law_made A) := okD T.F__law_made sc__law_made (len__law_made A) _ (fun cdv An outer s H E hr => w__law_made T G_Ground_init cdv An outer s H E hr) (rd__law_made A)
  have G__law_is_within : FnD P w K mg base 2 T.a__law_is_within T.fd__law_is_within [Str.ofString "_law_thing", Str.ofString "_law_least", Str.ofString "_law_most"] (sp__law_is_within A) := okD T.F__law_is_within sc__law_is_within (len__law_is_within A) _ (fun cdv An outer s H E hr => w__law_is_within T G__law_is_integer cdv An outer s H E hr) (rd__law_is_within A)
  have G__law_sign : FnD P w K mg base 1 T.a__law_sign T.fd__law_sign [Str.ofString "_law_rows_here", Str.ofString "_law_x", Str.ofString "_law_y"] (sp__law_sign A) := okD T.F__law_sign sc__law_sign (len__law_sign A) _ (fun cdv An outer s H E hr => w__law_sign T  cdv An outer s H E hr) (rd__law_sign A)
  have G_is_integer : FnD P w K mg base 1 T.a_is_integer T.fd_is_integer [Str.ofString "thing"] (sp_is_integer A) := okD T.F_is_integer sc_is_integer (len_is_integer A) _ (fun cdv An outer s H E hr => w_is_integer T  cdv An outer s H E hr) (rd_is_integer A)
  have G_check_integers : FnD P w K mg base 2 T.a_check_integers T.fd_check_integers [Str.ofString "things"] (sp_check_integers A) := okD T.F_check_integers sc_check_integers (len_check_integers A) _ (fun cdv An outer s H E hr => w_check_integers T G_is_integer cdv An outer s H E hr) (rd_check_integers A)
  have G_sign_of : FnD P w K mg base 1 T.a_sign_of T.fd_sign_of [Str.ofString "ground", Str.ofString "x", Str.ofString "y"] (sp_sign_of A) := okD T.F_sign_of sc_sign_of (len_sign_of A) _ (fun cdv An outer s H E hr => w_sign_of T  cdv An outer s H E hr) (rd_sign_of A)
  have G_sign_at : FnD P w K mg base 3 T.a_sign_at T.fd_sign_at [Str.ofString "ground", Str.ofString "x", Str.ofString "y"] (sp_sign_at A) := okD T.F_sign_at sc_sign_at (len_sign_at A) _ (fun cdv An outer s H E hr => w_sign_at T G_check_integers G_sign_of cdv An outer s H E hr) (rd_sign_at A)
  have G__law_signed : FnD P w K mg base 4 T.a__law_signed T.fd__law_signed [Str.ofString "_law_ground_here", Str.ofString "_law_x", Str.ofString "_law_y"] (sp__law_signed A) := okD T.F__law_signed sc__law_signed (len__law_signed A) _ (fun cdv An outer s H E hr => w__law_signed T G_sign_at cdv An outer s H E hr) (rd__law_signed A)
  have G_is_within : FnD P w K mg base 2 T.a_is_within T.fd_is_within [Str.ofString "thing", Str.ofString "least", Str.ofString "most"] (sp_is_within A) := okD T.F_is_within sc_is_within (len_is_within A) _ (fun cdv An outer s H E hr => w_is_within T G_is_integer cdv An outer s H E hr) (rd_is_within A)
  have G_check_within : FnD P w K mg base 3 T.a_check_within T.fd_check_within [Str.ofString "thing", Str.ofString "least", Str.ofString "most"] (sp_check_within A) := okD T.F_check_within sc_check_within (len_check_within A) _ (fun cdv An outer s H E hr => w_check_within T G_is_within cdv An outer s H E hr) (rd_check_within A)
  have G_spanned : FnD P w K mg base 1 T.a_spanned T.fd_spanned [Str.ofString "begin", Str.ofString "length"] (sp_spanned A) := okD T.F_spanned sc_spanned (len_spanned A) _ (fun cdv An outer s H E hr => w_spanned T  cdv An outer s H E hr) (rd_spanned A)
  have G_opens : FnD P w K mg base 2 T.a_opens T.fd_opens [Str.ofString "ground", Str.ofString "x", Str.ofString "y", Str.ofString "wide", Str.ofString "high"] (sp_opens A) := okD T.F_opens sc_opens (len_opens A) _ (fun cdv An outer s H E hr => w_opens T G_spanned cdv An outer s H E hr) (rd_opens A)
  have G_is_open : FnD P w K mg base 4 T.a_is_open T.fd_is_open [Str.ofString "ground", Str.ofString "x", Str.ofString "y", Str.ofString "wide", Str.ofString "high"] (sp_is_open A) := okD T.F_is_open sc_is_open (len_is_open A) _ (fun cdv An outer s H E hr => w_is_open T G_check_integers G_check_within G_opens cdv An outer s H E hr) (rd_is_open A)
  have G__law_opened : FnD P w K mg base 5 T.a__law_opened T.fd__law_opened [Str.ofString "_law_ground_here", Str.ofString "_law_x", Str.ofString "_law_y", Str.ofString "_law_wide", Str.ofString "_law_high"] (sp__law_opened A) := okD T.F__law_opened sc__law_opened (len__law_opened A) _ (fun cdv An outer s H E hr => w__law_opened T G_is_open cdv An outer s H E hr) (rd__law_opened A)
  have G__law_units_open : FnD P w K mg base 2 T.a__law_units_open T.fd__law_units_open [Str.ofString "_law_rows_here", Str.ofString "_law_x", Str.ofString "_law_y", Str.ofString "_law_wide", Str.ofString "_law_high"] (sp__law_units_open A) := okD T.F__law_units_open sc__law_units_open (len__law_units_open A) _ (fun cdv An outer s H E hr => w__law_units_open T G__law_sign cdv An outer s H E hr) (rd__law_units_open A)
  have G__law_pick : FnD P w K mg base 2 T.a__law_pick T.fd__law_pick [Str.ofString "_law_hand_here", Str.ofString "_law_things"] (sp__law_pick A) := okD T.F__law_pick sc__law_pick (len__law_pick A) _ (fun cdv An outer s H E hr => w__law_pick T G__law_take cdv An outer s H E hr) (rd__law_pick A)
  have G__law_great : FnD P w K mg base 2 T.a__law_great T.fd__law_great [Str.ofString "_law_hand_here"] (sp__law_great A) := okD T.F__law_great sc__law_great (len__law_great A) _ (fun cdv An outer s H E hr => w__law_great T G__law_take cdv An outer s H E hr) (rd__law_great A)
  have G__law_where : FnD P w K mg base 3 T.a__law_where T.fd__law_where [Str.ofString "_law_hand_here", Str.ofString "_law_long"] (sp__law_where A) := okD T.F__law_where sc__law_where (len__law_where A) _ (fun cdv An outer s H E hr => w__law_where T G__law_take G__law_pick G__law_great cdv An outer s H E hr) (rd__law_where A)
  have G__law_side : FnD P w K mg base 3 T.a__law_side T.fd__law_side [Str.ofString "_law_hand_here"] (sp__law_side A) := okD T.F__law_side sc__law_side (len__law_side A) _ (fun cdv An outer s H E hr => w__law_side T G__law_take G__law_pick cdv An outer s H E hr) (rd__law_side A)
  have G__law_asked : FnD P w K mg base 6 T.a__law_asked T.fd__law_asked [Str.ofString "_law_hand_here", Str.ofString "_law_rows_here", Str.ofString "_law_ground_here"] (sp__law_asked A) := okD T.F__law_asked sc__law_asked (len__law_asked A) _ (fun cdv An outer s H E hr => w__law_asked T G__law_take G__law_is_integer G__law_is_within (G__law_same 3) G__law_odd G__law_sign G__law_signed G__law_opened G__law_units_open G__law_where G__law_side cdv An outer s H E hr) (rd__law_asked A)
  have G_law : FnD P w K mg base 7 T.a_law T.fd_law [Str.ofString "_law_script"] spLaw := okD T.F_law sc_law (len_law A) _ (fun cdv An outer s H E hr => w_law T G_Ground_init G_Ground_eq G__law_hand (G__law_same 3) G__law_first_bad G__law_large G__law_spoiled G__law_made G__law_asked cdv An outer s H E hr) (rd_law A)
  exact G_law
end
def tx_mk {K : PySem.W.Frag} {h : Heap} {mg : Str → Option Value} (X : K.In h) (G : h.Ns mainGlobals mg)
    {fa_is_integer : Addr} {oc_is_integer kV_is_integer doc_is_integer pm_is_integer cd_is_integer ct_is_integer : Value} {od_is_integer an_is_integer : Option Addr} {sl_is_integer : Array (Option Value)}
    {fa_is_within : Addr} {oc_is_within kV_is_within doc_is_within pm_is_within cd_is_within ct_is_within : Value} {od_is_within an_is_within : Option Addr} {sl_is_within : Array (Option Value)}
    {fa_is_sized : Addr} {oc_is_sized kV_is_sized doc_is_sized pm_is_sized cd_is_sized ct_is_sized : Value} {od_is_sized an_is_sized : Option Addr} {sl_is_sized : Array (Option Value)}
    {fa_check_integers : Addr} {oc_check_integers kV_check_integers doc_check_integers pm_check_integers cd_check_integers ct_check_integers : Value} {od_check_integers an_check_integers : Option Addr} {sl_check_integers : Array (Option Value)}
    {fa_check_within : Addr} {oc_check_within kV_check_within doc_check_within pm_check_within cd_check_within ct_check_within : Value} {od_check_within an_check_within : Option Addr} {sl_check_within : Array (Option Value)}
    {fa_is_row : Addr} {oc_is_row kV_is_row doc_is_row pm_is_row cd_is_row ct_is_row : Value} {od_is_row an_is_row : Option Addr} {sl_is_row : Array (Option Value)}
    {fa_Ground_init : Addr} {oc_Ground_init kV_Ground_init doc_Ground_init pm_Ground_init cd_Ground_init ct_Ground_init : Value} {od_Ground_init an_Ground_init : Option Addr} {sl_Ground_init : Array (Option Value)}
    {fa_Ground_eq : Addr} {oc_Ground_eq kV_Ground_eq doc_Ground_eq pm_Ground_eq cd_Ground_eq ct_Ground_eq : Value} {od_Ground_eq an_Ground_eq : Option Addr} {sl_Ground_eq : Array (Option Value)}
    {fa_sign_of : Addr} {oc_sign_of kV_sign_of doc_sign_of pm_sign_of cd_sign_of ct_sign_of : Value} {od_sign_of an_sign_of : Option Addr} {sl_sign_of : Array (Option Value)}
    {fa_sign_at : Addr} {oc_sign_at kV_sign_at doc_sign_at pm_sign_at cd_sign_at ct_sign_at : Value} {od_sign_at an_sign_at : Option Addr} {sl_sign_at : Array (Option Value)}
    {fa_spanned : Addr} {oc_spanned kV_spanned doc_spanned pm_spanned cd_spanned ct_spanned : Value} {od_spanned an_spanned : Option Addr} {sl_spanned : Array (Option Value)}
    {fa_opens : Addr} {oc_opens kV_opens doc_opens pm_opens cd_opens ct_opens : Value} {od_opens an_opens : Option Addr} {sl_opens : Array (Option Value)}
    {fa_is_open : Addr} {oc_is_open kV_is_open doc_is_open pm_is_open cd_is_open ct_is_open : Value} {od_is_open an_is_open : Option Addr} {sl_is_open : Array (Option Value)}
    {fa__law_hand : Addr} {oc__law_hand kV__law_hand doc__law_hand pm__law_hand cd__law_hand ct__law_hand : Value} {od__law_hand an__law_hand : Option Addr} {sl__law_hand : Array (Option Value)}
    {fa__law_take : Addr} {oc__law_take kV__law_take doc__law_take pm__law_take cd__law_take ct__law_take : Value} {od__law_take an__law_take : Option Addr} {sl__law_take : Array (Option Value)}
    {fa__law_pick : Addr} {oc__law_pick kV__law_pick doc__law_pick pm__law_pick cd__law_pick ct__law_pick : Value} {od__law_pick an__law_pick : Option Addr} {sl__law_pick : Array (Option Value)}
    {fa__law_great : Addr} {oc__law_great kV__law_great doc__law_great pm__law_great cd__law_great ct__law_great : Value} {od__law_great an__law_great : Option Addr} {sl__law_great : Array (Option Value)}
    {fa__law_is_integer : Addr} {oc__law_is_integer kV__law_is_integer doc__law_is_integer pm__law_is_integer cd__law_is_integer ct__law_is_integer : Value} {od__law_is_integer an__law_is_integer : Option Addr} {sl__law_is_integer : Array (Option Value)}
    {fa__law_is_within : Addr} {oc__law_is_within kV__law_is_within doc__law_is_within pm__law_is_within cd__law_is_within ct__law_is_within : Value} {od__law_is_within an__law_is_within : Option Addr} {sl__law_is_within : Array (Option Value)}
    {fa__law_same : Addr} {oc__law_same kV__law_same doc__law_same pm__law_same cd__law_same ct__law_same : Value} {od__law_same an__law_same : Option Addr} {sl__law_same : Array (Option Value)}
    {fa__law_odd : Addr} {oc__law_odd kV__law_odd doc__law_odd pm__law_odd cd__law_odd ct__law_odd : Value} {od__law_odd an__law_odd : Option Addr} {sl__law_odd : Array (Option Value)}
    {fa__law_ground_sign : Addr} {oc__law_ground_sign kV__law_ground_sign doc__law_ground_sign pm__law_ground_sign cd__law_ground_sign ct__law_ground_sign : Value} {od__law_ground_sign an__law_ground_sign : Option Addr} {sl__law_ground_sign : Array (Option Value)}
    {fa__law_rows : Addr} {oc__law_rows kV__law_rows doc__law_rows pm__law_rows cd__law_rows ct__law_rows : Value} {od__law_rows an__law_rows : Option Addr} {sl__law_rows : Array (Option Value)}
    {fa__law_ground : Addr} {oc__law_ground kV__law_ground doc__law_ground pm__law_ground cd__law_ground ct__law_ground : Value} {od__law_ground an__law_ground : Option Addr} {sl__law_ground : Array (Option Value)}
    {fa__law_sign : Addr} {oc__law_sign kV__law_sign doc__law_sign pm__law_sign cd__law_sign ct__law_sign : Value} {od__law_sign an__law_sign : Option Addr} {sl__law_sign : Array (Option Value)}
    {fa__law_first_bad : Addr} {oc__law_first_bad kV__law_first_bad doc__law_first_bad pm__law_first_bad cd__law_first_bad ct__law_first_bad : Value} {od__law_first_bad an__law_first_bad : Option Addr} {sl__law_first_bad : Array (Option Value)}
    {fa__law_large : Addr} {oc__law_large kV__law_large doc__law_large pm__law_large cd__law_large ct__law_large : Value} {od__law_large an__law_large : Option Addr} {sl__law_large : Array (Option Value)}
    {fa__law_spoiled : Addr} {oc__law_spoiled kV__law_spoiled doc__law_spoiled pm__law_spoiled cd__law_spoiled ct__law_spoiled : Value} {od__law_spoiled an__law_spoiled : Option Addr} {sl__law_spoiled : Array (Option Value)}
    {fa__law_made : Addr} {oc__law_made kV__law_made doc__law_made pm__law_made cd__law_made ct__law_made : Value} {od__law_made an__law_made : Option Addr} {sl__law_made : Array (Option Value)}
    {fa__law_signed : Addr} {oc__law_signed kV__law_signed doc__law_signed pm__law_signed cd__law_signed ct__law_signed : Value} {od__law_signed an__law_signed : Option Addr} {sl__law_signed : Array (Option Value)}
    {fa__law_opened : Addr} {oc__law_opened kV__law_opened doc__law_opened pm__law_opened cd__law_opened ct__law_opened : Value} {od__law_opened an__law_opened : Option Addr} {sl__law_opened : Array (Option Value)}
    {fa__law_units_open : Addr} {oc__law_units_open kV__law_units_open doc__law_units_open pm__law_units_open cd__law_units_open ct__law_units_open : Value} {od__law_units_open an__law_units_open : Option Addr} {sl__law_units_open : Array (Option Value)}
    {fa__law_where : Addr} {oc__law_where kV__law_where doc__law_where pm__law_where cd__law_where ct__law_where : Value} {od__law_where an__law_where : Option Addr} {sl__law_where : Array (Option Value)}
    {fa__law_side : Addr} {oc__law_side kV__law_side doc__law_side pm__law_side cd__law_side ct__law_side : Value} {od__law_side an__law_side : Option Addr} {sl__law_side : Array (Option Value)}
    {fa__law_asked : Addr} {oc__law_asked kV__law_asked doc__law_asked pm__law_asked cd__law_asked ct__law_asked : Value} {od__law_asked an__law_asked : Option Addr} {sl__law_asked : Array (Option Value)}
    {fa_law : Addr} {oc_law kV_law doc_law pm_law cd_law ct_law : Value} {od_law an_law : Option Addr} {sl_law : Array (Option Value)}
    {tk1 : Tok}
    {tk2 : Tok}
    {tk3 : Tok}
    {tk4 : Tok}
    {tk5 : Tok}
    {tk6 : Tok}
    {tk7 : Tok}
    {A_NoNumber : Addr}
    {A_BadGround : Addr}
    {nm_BadGround q_BadGround : Str} {N_BadGround : Addr} {bs_BadGround : List Value} {sn_BadGround : List Str} {sub_BadGround : List Value} {ab_BadGround : Bool} {col_BadGround : Option Bool} {dd_BadGround : Option Addr} {m0_BadGround m1_BadGround m2_BadGround m3_BadGround m5_BadGround : Option Value} {fi_BadGround : Addr}
    {bw0_BadGround : Addr}
    {oc_BadGround_init kV_BadGround_init doc_BadGround_init pm_BadGround_init cd_BadGround_init ct_BadGround_init : Value} {od_BadGround_init an_BadGround_init : Option Addr} {sl_BadGround_init : Array (Option Value)}
    {A_Ground : Addr}
    (a_is_integer : PySem.W.nsIn K mainGlobals "is_integer" = some (some (.ref fa_is_integer)))
    (l_is_integer : K.lookup fa_is_integer = some ⟨oc_is_integer, od_is_integer, .func (PySem.W.fnOf "is_integer" "is_integer" (defArgs s_is_integer) (defBody s_is_integer) (defScope s_is_integer) .none kV_is_integer doc_is_integer pm_is_integer an_is_integer cd_is_integer ct_is_integer), sl_is_integer⟩)
    (c_is_integer : PySem.W.codeIn K cd_is_integer "is_integer" = true)
    (k_is_integer : PySem.W.keepIn K (.ref fa_is_integer) = true)
    (a_is_within : PySem.W.nsIn K mainGlobals "is_within" = some (some (.ref fa_is_within)))
    (l_is_within : K.lookup fa_is_within = some ⟨oc_is_within, od_is_within, .func (PySem.W.fnOf "is_within" "is_within" (defArgs s_is_within) (defBody s_is_within) (defScope s_is_within) .none kV_is_within doc_is_within pm_is_within an_is_within cd_is_within ct_is_within), sl_is_within⟩)
    (c_is_within : PySem.W.codeIn K cd_is_within "is_within" = true)
    (k_is_within : PySem.W.keepIn K (.ref fa_is_within) = true)
    (a_is_sized : PySem.W.nsIn K mainGlobals "is_sized" = some (some (.ref fa_is_sized)))
    (l_is_sized : K.lookup fa_is_sized = some ⟨oc_is_sized, od_is_sized, .func (PySem.W.fnOf "is_sized" "is_sized" (defArgs s_is_sized) (defBody s_is_sized) (defScope s_is_sized) .none kV_is_sized doc_is_sized pm_is_sized an_is_sized cd_is_sized ct_is_sized), sl_is_sized⟩)
    (c_is_sized : PySem.W.codeIn K cd_is_sized "is_sized" = true)
    (k_is_sized : PySem.W.keepIn K (.ref fa_is_sized) = true)
    (a_check_integers : PySem.W.nsIn K mainGlobals "check_integers" = some (some (.ref fa_check_integers)))
    (l_check_integers : K.lookup fa_check_integers = some ⟨oc_check_integers, od_check_integers, .func (PySem.W.fnOf "check_integers" "check_integers" (defArgs s_check_integers) (defBody s_check_integers) (defScope s_check_integers) .none kV_check_integers doc_check_integers pm_check_integers an_check_integers cd_check_integers ct_check_integers), sl_check_integers⟩)
    (c_check_integers : PySem.W.codeIn K cd_check_integers "check_integers" = true)
    (k_check_integers : PySem.W.keepIn K (.ref fa_check_integers) = true)
    (a_check_within : PySem.W.nsIn K mainGlobals "check_within" = some (some (.ref fa_check_within)))
    (l_check_within : K.lookup fa_check_within = some ⟨oc_check_within, od_check_within, .func (PySem.W.fnOf "check_within" "check_within" (defArgs s_check_within) (defBody s_check_within) (defScope s_check_within) .none kV_check_within doc_check_within pm_check_within an_check_within cd_check_within ct_check_within), sl_check_within⟩)
    (c_check_within : PySem.W.codeIn K cd_check_within "check_within" = true)
    (k_check_within : PySem.W.keepIn K (.ref fa_check_within) = true)
    (a_is_row : PySem.W.nsIn K mainGlobals "is_row" = some (some (.ref fa_is_row)))
    (l_is_row : K.lookup fa_is_row = some ⟨oc_is_row, od_is_row, .func (PySem.W.fnOf "is_row" "is_row" (defArgs s_is_row) (defBody s_is_row) (defScope s_is_row) .none kV_is_row doc_is_row pm_is_row an_is_row cd_is_row ct_is_row), sl_is_row⟩)
    (c_is_row : PySem.W.codeIn K cd_is_row "is_row" = true)
    (k_is_row : PySem.W.keepIn K (.ref fa_is_row) = true)
    (a_Ground_init : PySem.W.findIn K (.ref A_Ground) "__init__" = some (some (.ref fa_Ground_init)))
    (l_Ground_init : K.lookup fa_Ground_init = some ⟨oc_Ground_init, od_Ground_init, .func (PySem.W.fnOf "__init__" "Ground.__init__" (defArgs s_Ground_init) (defBody s_Ground_init) (defScope s_Ground_init) .none kV_Ground_init doc_Ground_init pm_Ground_init an_Ground_init cd_Ground_init ct_Ground_init), sl_Ground_init⟩)
    (c_Ground_init : PySem.W.codeIn K cd_Ground_init "Ground.__init__" = true)
    (k_Ground_init : PySem.W.keepIn K (.ref fa_Ground_init) = true)
    (a_Ground_eq : PySem.W.findIn K (.ref A_Ground) "__eq__" = some (some (.ref fa_Ground_eq)))
    (l_Ground_eq : K.lookup fa_Ground_eq = some ⟨oc_Ground_eq, od_Ground_eq, .func (PySem.W.fnOf "__eq__" "Ground.__eq__" (defArgs s_Ground_eq) (defBody s_Ground_eq) (defScope s_Ground_eq) .none kV_Ground_eq doc_Ground_eq pm_Ground_eq an_Ground_eq cd_Ground_eq ct_Ground_eq), sl_Ground_eq⟩)
    (c_Ground_eq : PySem.W.codeIn K cd_Ground_eq "Ground.__eq__" = true)
    (k_Ground_eq : PySem.W.keepIn K (.ref fa_Ground_eq) = true)
    (a_sign_of : PySem.W.nsIn K mainGlobals "sign_of" = some (some (.ref fa_sign_of)))
    (l_sign_of : K.lookup fa_sign_of = some ⟨oc_sign_of, od_sign_of, .func (PySem.W.fnOf "sign_of" "sign_of" (defArgs s_sign_of) (defBody s_sign_of) (defScope s_sign_of) .none kV_sign_of doc_sign_of pm_sign_of an_sign_of cd_sign_of ct_sign_of), sl_sign_of⟩)
    (c_sign_of : PySem.W.codeIn K cd_sign_of "sign_of" = true)
    (k_sign_of : PySem.W.keepIn K (.ref fa_sign_of) = true)
    (a_sign_at : PySem.W.nsIn K mainGlobals "sign_at" = some (some (.ref fa_sign_at)))
    (l_sign_at : K.lookup fa_sign_at = some ⟨oc_sign_at, od_sign_at, .func (PySem.W.fnOf "sign_at" "sign_at" (defArgs s_sign_at) (defBody s_sign_at) (defScope s_sign_at) .none kV_sign_at doc_sign_at pm_sign_at an_sign_at cd_sign_at ct_sign_at), sl_sign_at⟩)
    (c_sign_at : PySem.W.codeIn K cd_sign_at "sign_at" = true)
    (k_sign_at : PySem.W.keepIn K (.ref fa_sign_at) = true)
    (a_spanned : PySem.W.nsIn K mainGlobals "spanned" = some (some (.ref fa_spanned)))
    (l_spanned : K.lookup fa_spanned = some ⟨oc_spanned, od_spanned, .func (PySem.W.fnOf "spanned" "spanned" (defArgs s_spanned) (defBody s_spanned) (defScope s_spanned) .none kV_spanned doc_spanned pm_spanned an_spanned cd_spanned ct_spanned), sl_spanned⟩)
    (c_spanned : PySem.W.codeIn K cd_spanned "spanned" = true)
    (k_spanned : PySem.W.keepIn K (.ref fa_spanned) = true)
    (a_opens : PySem.W.nsIn K mainGlobals "opens" = some (some (.ref fa_opens)))
    (l_opens : K.lookup fa_opens = some ⟨oc_opens, od_opens, .func (PySem.W.fnOf "opens" "opens" (defArgs s_opens) (defBody s_opens) (defScope s_opens) .none kV_opens doc_opens pm_opens an_opens cd_opens ct_opens), sl_opens⟩)
    (c_opens : PySem.W.codeIn K cd_opens "opens" = true)
    (k_opens : PySem.W.keepIn K (.ref fa_opens) = true)
    (a_is_open : PySem.W.nsIn K mainGlobals "is_open" = some (some (.ref fa_is_open)))
    (l_is_open : K.lookup fa_is_open = some ⟨oc_is_open, od_is_open, .func (PySem.W.fnOf "is_open" "is_open" (defArgs s_is_open) (defBody s_is_open) (defScope s_is_open) .none kV_is_open doc_is_open pm_is_open an_is_open cd_is_open ct_is_open), sl_is_open⟩)
    (c_is_open : PySem.W.codeIn K cd_is_open "is_open" = true)
    (k_is_open : PySem.W.keepIn K (.ref fa_is_open) = true)
    (a__law_hand : PySem.W.nsIn K mainGlobals "_law_hand" = some (some (.ref fa__law_hand)))
    (l__law_hand : K.lookup fa__law_hand = some ⟨oc__law_hand, od__law_hand, .func (PySem.W.fnOf "_law_hand" "_law_hand" (defArgs s__law_hand) (defBody s__law_hand) (defScope s__law_hand) .none kV__law_hand doc__law_hand pm__law_hand an__law_hand cd__law_hand ct__law_hand), sl__law_hand⟩)
    (c__law_hand : PySem.W.codeIn K cd__law_hand "_law_hand" = true)
    (k__law_hand : PySem.W.keepIn K (.ref fa__law_hand) = true)
    (a__law_take : PySem.W.nsIn K mainGlobals "_law_take" = some (some (.ref fa__law_take)))
    (l__law_take : K.lookup fa__law_take = some ⟨oc__law_take, od__law_take, .func (PySem.W.fnOf "_law_take" "_law_take" (defArgs s__law_take) (defBody s__law_take) (defScope s__law_take) .none kV__law_take doc__law_take pm__law_take an__law_take cd__law_take ct__law_take), sl__law_take⟩)
    (c__law_take : PySem.W.codeIn K cd__law_take "_law_take" = true)
    (k__law_take : PySem.W.keepIn K (.ref fa__law_take) = true)
    (a__law_pick : PySem.W.nsIn K mainGlobals "_law_pick" = some (some (.ref fa__law_pick)))
    (l__law_pick : K.lookup fa__law_pick = some ⟨oc__law_pick, od__law_pick, .func (PySem.W.fnOf "_law_pick" "_law_pick" (defArgs s__law_pick) (defBody s__law_pick) (defScope s__law_pick) .none kV__law_pick doc__law_pick pm__law_pick an__law_pick cd__law_pick ct__law_pick), sl__law_pick⟩)
    (c__law_pick : PySem.W.codeIn K cd__law_pick "_law_pick" = true)
    (k__law_pick : PySem.W.keepIn K (.ref fa__law_pick) = true)
    (a__law_great : PySem.W.nsIn K mainGlobals "_law_great" = some (some (.ref fa__law_great)))
    (l__law_great : K.lookup fa__law_great = some ⟨oc__law_great, od__law_great, .func (PySem.W.fnOf "_law_great" "_law_great" (defArgs s__law_great) (defBody s__law_great) (defScope s__law_great) .none kV__law_great doc__law_great pm__law_great an__law_great cd__law_great ct__law_great), sl__law_great⟩)
    (c__law_great : PySem.W.codeIn K cd__law_great "_law_great" = true)
    (k__law_great : PySem.W.keepIn K (.ref fa__law_great) = true)
    (a__law_is_integer : PySem.W.nsIn K mainGlobals "_law_is_integer" = some (some (.ref fa__law_is_integer)))
    (l__law_is_integer : K.lookup fa__law_is_integer = some ⟨oc__law_is_integer, od__law_is_integer, .func (PySem.W.fnOf "_law_is_integer" "_law_is_integer" (defArgs s__law_is_integer) (defBody s__law_is_integer) (defScope s__law_is_integer) .none kV__law_is_integer doc__law_is_integer pm__law_is_integer an__law_is_integer cd__law_is_integer ct__law_is_integer), sl__law_is_integer⟩)
    (c__law_is_integer : PySem.W.codeIn K cd__law_is_integer "_law_is_integer" = true)
    (k__law_is_integer : PySem.W.keepIn K (.ref fa__law_is_integer) = true)
    (a__law_is_within : PySem.W.nsIn K mainGlobals "_law_is_within" = some (some (.ref fa__law_is_within)))
    (l__law_is_within : K.lookup fa__law_is_within = some ⟨oc__law_is_within, od__law_is_within, .func (PySem.W.fnOf "_law_is_within" "_law_is_within" (defArgs s__law_is_within) (defBody s__law_is_within) (defScope s__law_is_within) .none kV__law_is_within doc__law_is_within pm__law_is_within an__law_is_within cd__law_is_within ct__law_is_within), sl__law_is_within⟩)
    (c__law_is_within : PySem.W.codeIn K cd__law_is_within "_law_is_within" = true)
    (k__law_is_within : PySem.W.keepIn K (.ref fa__law_is_within) = true)
    (a__law_same : PySem.W.nsIn K mainGlobals "_law_same" = some (some (.ref fa__law_same)))
    (l__law_same : K.lookup fa__law_same = some ⟨oc__law_same, od__law_same, .func (PySem.W.fnOf "_law_same" "_law_same" (defArgs s__law_same) (defBody s__law_same) (defScope s__law_same) .none kV__law_same doc__law_same pm__law_same an__law_same cd__law_same ct__law_same), sl__law_same⟩)
    (c__law_same : PySem.W.codeIn K cd__law_same "_law_same" = true)
    (k__law_same : PySem.W.keepIn K (.ref fa__law_same) = true)
    (a__law_odd : PySem.W.nsIn K mainGlobals "_law_odd" = some (some (.ref fa__law_odd)))
    (l__law_odd : K.lookup fa__law_odd = some ⟨oc__law_odd, od__law_odd, .func (PySem.W.fnOf "_law_odd" "_law_odd" (defArgs s__law_odd) (defBody s__law_odd) (defScope s__law_odd) .none kV__law_odd doc__law_odd pm__law_odd an__law_odd cd__law_odd ct__law_odd), sl__law_odd⟩)
    (c__law_odd : PySem.W.codeIn K cd__law_odd "_law_odd" = true)
    (k__law_odd : PySem.W.keepIn K (.ref fa__law_odd) = true)
    (a__law_ground_sign : PySem.W.nsIn K mainGlobals "_law_ground_sign" = some (some (.ref fa__law_ground_sign)))
    (l__law_ground_sign : K.lookup fa__law_ground_sign = some ⟨oc__law_ground_sign, od__law_ground_sign, .func (PySem.W.fnOf "_law_ground_sign" "_law_ground_sign" (defArgs s__law_ground_sign) (defBody s__law_ground_sign) (defScope s__law_ground_sign) .none kV__law_ground_sign doc__law_ground_sign pm__law_ground_sign an__law_ground_sign cd__law_ground_sign ct__law_ground_sign), sl__law_ground_sign⟩)
    (c__law_ground_sign : PySem.W.codeIn K cd__law_ground_sign "_law_ground_sign" = true)
    (k__law_ground_sign : PySem.W.keepIn K (.ref fa__law_ground_sign) = true)
    (a__law_rows : PySem.W.nsIn K mainGlobals "_law_rows" = some (some (.ref fa__law_rows)))
    (l__law_rows : K.lookup fa__law_rows = some ⟨oc__law_rows, od__law_rows, .func (PySem.W.fnOf "_law_rows" "_law_rows" (defArgs s__law_rows) (defBody s__law_rows) (defScope s__law_rows) .none kV__law_rows doc__law_rows pm__law_rows an__law_rows cd__law_rows ct__law_rows), sl__law_rows⟩)
    (c__law_rows : PySem.W.codeIn K cd__law_rows "_law_rows" = true)
    (k__law_rows : PySem.W.keepIn K (.ref fa__law_rows) = true)
    (a__law_ground : PySem.W.nsIn K mainGlobals "_law_ground" = some (some (.ref fa__law_ground)))
    (l__law_ground : K.lookup fa__law_ground = some ⟨oc__law_ground, od__law_ground, .func (PySem.W.fnOf "_law_ground" "_law_ground" (defArgs s__law_ground) (defBody s__law_ground) (defScope s__law_ground) .none kV__law_ground doc__law_ground pm__law_ground an__law_ground cd__law_ground ct__law_ground), sl__law_ground⟩)
    (c__law_ground : PySem.W.codeIn K cd__law_ground "_law_ground" = true)
    (k__law_ground : PySem.W.keepIn K (.ref fa__law_ground) = true)
    (a__law_sign : PySem.W.nsIn K mainGlobals "_law_sign" = some (some (.ref fa__law_sign)))
    (l__law_sign : K.lookup fa__law_sign = some ⟨oc__law_sign, od__law_sign, .func (PySem.W.fnOf "_law_sign" "_law_sign" (defArgs s__law_sign) (defBody s__law_sign) (defScope s__law_sign) .none kV__law_sign doc__law_sign pm__law_sign an__law_sign cd__law_sign ct__law_sign), sl__law_sign⟩)
    (c__law_sign : PySem.W.codeIn K cd__law_sign "_law_sign" = true)
    (k__law_sign : PySem.W.keepIn K (.ref fa__law_sign) = true)
    (a__law_first_bad : PySem.W.nsIn K mainGlobals "_law_first_bad" = some (some (.ref fa__law_first_bad)))
    (l__law_first_bad : K.lookup fa__law_first_bad = some ⟨oc__law_first_bad, od__law_first_bad, .func (PySem.W.fnOf "_law_first_bad" "_law_first_bad" (defArgs s__law_first_bad) (defBody s__law_first_bad) (defScope s__law_first_bad) .none kV__law_first_bad doc__law_first_bad pm__law_first_bad an__law_first_bad cd__law_first_bad ct__law_first_bad), sl__law_first_bad⟩)
    (c__law_first_bad : PySem.W.codeIn K cd__law_first_bad "_law_first_bad" = true)
    (k__law_first_bad : PySem.W.keepIn K (.ref fa__law_first_bad) = true)
    (a__law_large : PySem.W.nsIn K mainGlobals "_law_large" = some (some (.ref fa__law_large)))
    (l__law_large : K.lookup fa__law_large = some ⟨oc__law_large, od__law_large, .func (PySem.W.fnOf "_law_large" "_law_large" (defArgs s__law_large) (defBody s__law_large) (defScope s__law_large) .none kV__law_large doc__law_large pm__law_large an__law_large cd__law_large ct__law_large), sl__law_large⟩)
    (c__law_large : PySem.W.codeIn K cd__law_large "_law_large" = true)
    (k__law_large : PySem.W.keepIn K (.ref fa__law_large) = true)
    (a__law_spoiled : PySem.W.nsIn K mainGlobals "_law_spoiled" = some (some (.ref fa__law_spoiled)))
    (l__law_spoiled : K.lookup fa__law_spoiled = some ⟨oc__law_spoiled, od__law_spoiled, .func (PySem.W.fnOf "_law_spoiled" "_law_spoiled" (defArgs s__law_spoiled) (defBody s__law_spoiled) (defScope s__law_spoiled) .none kV__law_spoiled doc__law_spoiled pm__law_spoiled an__law_spoiled cd__law_spoiled ct__law_spoiled), sl__law_spoiled⟩)
    (c__law_spoiled : PySem.W.codeIn K cd__law_spoiled "_law_spoiled" = true)
    (k__law_spoiled : PySem.W.keepIn K (.ref fa__law_spoiled) = true)
    (a__law_made : PySem.W.nsIn K mainGlobals "_law_made" = some (some (.ref fa__law_made)))
    (l__law_made : K.lookup fa__law_made = some ⟨oc__law_made, od__law_made, .func (PySem.W.fnOf "_law_made" "_law_made" (defArgs s__law_made) (defBody s__law_made) (defScope s__law_made) .none kV__law_made doc__law_made pm__law_made an__law_made cd__law_made ct__law_made), sl__law_made⟩)
    (c__law_made : PySem.W.codeIn K cd__law_made "_law_made" = true)
    (k__law_made : PySem.W.keepIn K (.ref fa__law_made) = true)
    (a__law_signed : PySem.W.nsIn K mainGlobals "_law_signed" = some (some (.ref fa__law_signed)))
    (l__law_signed : K.lookup fa__law_signed = some ⟨oc__law_signed, od__law_signed, .func (PySem.W.fnOf "_law_signed" "_law_signed" (defArgs s__law_signed) (defBody s__law_signed) (defScope s__law_signed) .none kV__law_signed doc__law_signed pm__law_signed an__law_signed cd__law_signed ct__law_signed), sl__law_signed⟩)
    (c__law_signed : PySem.W.codeIn K cd__law_signed "_law_signed" = true)
    (k__law_signed : PySem.W.keepIn K (.ref fa__law_signed) = true)
    (a__law_opened : PySem.W.nsIn K mainGlobals "_law_opened" = some (some (.ref fa__law_opened)))
    (l__law_opened : K.lookup fa__law_opened = some ⟨oc__law_opened, od__law_opened, .func (PySem.W.fnOf "_law_opened" "_law_opened" (defArgs s__law_opened) (defBody s__law_opened) (defScope s__law_opened) .none kV__law_opened doc__law_opened pm__law_opened an__law_opened cd__law_opened ct__law_opened), sl__law_opened⟩)
    (c__law_opened : PySem.W.codeIn K cd__law_opened "_law_opened" = true)
    (k__law_opened : PySem.W.keepIn K (.ref fa__law_opened) = true)
    (a__law_units_open : PySem.W.nsIn K mainGlobals "_law_units_open" = some (some (.ref fa__law_units_open)))
    (l__law_units_open : K.lookup fa__law_units_open = some ⟨oc__law_units_open, od__law_units_open, .func (PySem.W.fnOf "_law_units_open" "_law_units_open" (defArgs s__law_units_open) (defBody s__law_units_open) (defScope s__law_units_open) .none kV__law_units_open doc__law_units_open pm__law_units_open an__law_units_open cd__law_units_open ct__law_units_open), sl__law_units_open⟩)
    (c__law_units_open : PySem.W.codeIn K cd__law_units_open "_law_units_open" = true)
    (k__law_units_open : PySem.W.keepIn K (.ref fa__law_units_open) = true)
    (a__law_where : PySem.W.nsIn K mainGlobals "_law_where" = some (some (.ref fa__law_where)))
    (l__law_where : K.lookup fa__law_where = some ⟨oc__law_where, od__law_where, .func (PySem.W.fnOf "_law_where" "_law_where" (defArgs s__law_where) (defBody s__law_where) (defScope s__law_where) .none kV__law_where doc__law_where pm__law_where an__law_where cd__law_where ct__law_where), sl__law_where⟩)
    (c__law_where : PySem.W.codeIn K cd__law_where "_law_where" = true)
    (k__law_where : PySem.W.keepIn K (.ref fa__law_where) = true)
    (a__law_side : PySem.W.nsIn K mainGlobals "_law_side" = some (some (.ref fa__law_side)))
    (l__law_side : K.lookup fa__law_side = some ⟨oc__law_side, od__law_side, .func (PySem.W.fnOf "_law_side" "_law_side" (defArgs s__law_side) (defBody s__law_side) (defScope s__law_side) .none kV__law_side doc__law_side pm__law_side an__law_side cd__law_side ct__law_side), sl__law_side⟩)
    (c__law_side : PySem.W.codeIn K cd__law_side "_law_side" = true)
    (k__law_side : PySem.W.keepIn K (.ref fa__law_side) = true)
    (a__law_asked : PySem.W.nsIn K mainGlobals "_law_asked" = some (some (.ref fa__law_asked)))
    (l__law_asked : K.lookup fa__law_asked = some ⟨oc__law_asked, od__law_asked, .func (PySem.W.fnOf "_law_asked" "_law_asked" (defArgs s__law_asked) (defBody s__law_asked) (defScope s__law_asked) .none kV__law_asked doc__law_asked pm__law_asked an__law_asked cd__law_asked ct__law_asked), sl__law_asked⟩)
    (c__law_asked : PySem.W.codeIn K cd__law_asked "_law_asked" = true)
    (k__law_asked : PySem.W.keepIn K (.ref fa__law_asked) = true)
    (a_law : PySem.W.nsIn K mainGlobals "law" = some (some (.ref fa_law)))
    (l_law : K.lookup fa_law = some ⟨oc_law, od_law, .func (PySem.W.fnOf "law" "law" (defArgs s_law) (defBody s_law) (defScope s_law) .none kV_law doc_law pm_law an_law cd_law ct_law), sl_law⟩)
    (c_law : PySem.W.codeIn K cd_law "law" = true)
    (k_law : PySem.W.keepIn K (.ref fa_law) = true)
    (m_CELL : PySem.W.nsIn K mainGlobals "CELL" = some (some (.int 8 tk1)))
    (m_FREE : PySem.W.nsIn K mainGlobals "FREE" = some (some (.str (Str.ofString ".") tk2)))
    (m_MARKS : PySem.W.nsIn K mainGlobals "MARKS" = some (some (.str (Str.ofString "0123456789") tk3)))
    (m_MOST_ROWS : PySem.W.nsIn K mainGlobals "MOST_ROWS" = some (some (.int 30 tk4)))
    (m_MOST_SIDE : PySem.W.nsIn K mainGlobals "MOST_SIDE" = some (some (.int 32 tk5)))
    (m_MOST_SIGNS : PySem.W.nsIn K mainGlobals "MOST_SIGNS" = some (some (.int 40 tk6)))
    (m_WALL : PySem.W.nsIn K mainGlobals "WALL" = some (some (.str (Str.ofString "#") tk7)))
    (n_all : PySem.W.nsIn K mainGlobals "all" = some none)
    (n_any : PySem.W.nsIn K mainGlobals "any" = some none)
    (n_bool : PySem.W.nsIn K mainGlobals "bool" = some none)
    (n_enumerate : PySem.W.nsIn K mainGlobals "enumerate" = some none)
    (n_int : PySem.W.nsIn K mainGlobals "int" = some none)
    (n_isinstance : PySem.W.nsIn K mainGlobals "isinstance" = some none)
    (n_len : PySem.W.nsIn K mainGlobals "len" = some none)
    (n_list : PySem.W.nsIn K mainGlobals "list" = some none)
    (n_range : PySem.W.nsIn K mainGlobals "range" = some none)
    (n_str : PySem.W.nsIn K mainGlobals "str" = some none)
    (n_tuple : PySem.W.nsIn K mainGlobals "tuple" = some none)
    (n_zip : PySem.W.nsIn K mainGlobals "zip" = some none)
    (i_Ground_eq : PySem.W.isFn K (.ref fa_Ground_eq) = true)
    (i_Ground_init : PySem.W.isFn K (.ref fa_Ground_init) = true)
    (mkc_Ground : PySem.W.makesIn K A_Ground = true)
    (kc_Ground : PySem.W.keepIn K (.ref A_Ground) = true)
    (pg_Ground : PySem.W.plainGet K A_Ground Str.empty = true)
    (hd_Ground : PySem.W.hasDictIn K A_Ground = true)
    (po_Ground : PySem.W.plainOver K A_Ground = true)
    (sa_Ground : PySem.W.findIn K (.ref A_Ground) "__setattr__" = some (some (.builtin "object.__setattr__")))
    (na_Ground_high : PySem.W.findIn K (.ref A_Ground) (Str.ofString "high") = some none)
    (na_Ground_rows : PySem.W.findIn K (.ref A_Ground) (Str.ofString "rows") = some none)
    (na_Ground_wide : PySem.W.findIn K (.ref A_Ground) (Str.ofString "wide") = some none)
    (oa_Ground : PySem.W.findIn K (.ref A_Ground) "__class__" = some (some (.builtin "object.__class__")))
    (om_Ground : PySem.W.mroIn K A_Ground (.type "object") = some true)
    (ic_Ground : PySem.W.isClsIn K A_Ground = true)
    (ot_Ground : PySem.W.typeIn K (.ref A_Ground) = some (.type "type"))
    (on_Ground_int : PySem.W.mroIn K A_Ground (.type "int") = some false)
    (on_Ground_bool : PySem.W.mroIn K A_Ground (.type "bool") = some false)
    (on_Ground_str : PySem.W.mroIn K A_Ground (.type "str") = some false)
    (on_Ground_tuple : PySem.W.mroIn K A_Ground (.type "tuple") = some false)
    (on_Ground_list : PySem.W.mroIn K A_Ground (.type "list") = some false)
    (on_Ground_dict : PySem.W.mroIn K A_Ground (.type "dict") = some false)
    (oh_n : PySem.W.specialIn K (.builtin "object.__class__") "__get__" = some (some (.builtin "getset_descriptor.__get__")))
    (oh_t : PySem.W.takesIn K (.builtin "object.__class__") = some true)
    (m_NoNumber : PySem.W.nsIn K mainGlobals "NoNumber" = some (some (.ref A_NoNumber)))
    (xq_NoNumber : PySem.W.excIn K A_NoNumber [.type "ValueError", .type "Exception", .type "BaseException", .type "object"] "ValueError.__new__" = true)
    (xk_NoNumber : PySem.W.keepIn K (.ref A_NoNumber) = true)
    (xb_NoNumber : PySem.W.subIn K (.ref A_NoNumber) (.type "BaseException") = some true)
    (xt_NoNumber : PySem.W.typeIn K (.ref A_NoNumber) = some (.type "type"))
    (m_BadGround : PySem.W.nsIn K mainGlobals "BadGround" = some (some (.ref A_BadGround)))
    (xl_BadGround : K.lookup A_BadGround = some (excClassObj nm_BadGround q_BadGround A_BadGround N_BadGround bs_BadGround [.ref bw0_BadGround, .type "ValueError", .type "Exception", .type "BaseException", .type "object"] true sn_BadGround sub_BadGround ab_BadGround col_BadGround dd_BadGround m0_BadGround m1_BadGround m2_BadGround m3_BadGround m5_BadGround "ValueError.__new__"))
    (sa_BadGround : PySem.W.findIn K (.ref A_BadGround) "__setattr__" = some (some (.builtin "object.__setattr__")))
    (ga_BadGround : PySem.W.findIn K (.ref A_BadGround) "__getattribute__" = some (some (.builtin "BaseException.__getattribute__")))
    (gg_BadGround : PySem.W.findIn K (.ref A_BadGround) "__getattr__" = some none)
    (xk_BadGround : PySem.W.keepIn K (.ref A_BadGround) = true)
    (xb_BadGround : PySem.W.subIn K (.ref A_BadGround) (.type "BaseException") = some true)
    (xt_BadGround : PySem.W.typeIn K (.ref A_BadGround) = some (.type "type"))
    (hd_BadGround : PySem.W.hasDictIn K A_BadGround = true)
    (nf_BadGround : PySem.W.findIn K (.ref A_BadGround) (Str.ofString "part") = some none)
    (i_BadGround : PySem.W.findIn K (.ref A_BadGround) "__init__" = some (some (.ref fi_BadGround)))
    (t_BadGround : PySem.W.typeIn K (.ref fi_BadGround) = some (.type "function"))
    (l_BadGround_init : K.lookup fi_BadGround = some ⟨oc_BadGround_init, od_BadGround_init, .func (PySem.W.fnOf "__init__" "BadGround.__init__" (defArgs s_BadGround_init) (defBody s_BadGround_init) (defScope s_BadGround_init) .none kV_BadGround_init doc_BadGround_init pm_BadGround_init an_BadGround_init cd_BadGround_init ct_BadGround_init), sl_BadGround_init⟩)
    (c_BadGround_init : PySem.W.codeIn K cd_BadGround_init "BadGround.__init__" = true)
    (k_BadGround_init : PySem.W.keepIn K (.ref fi_BadGround) = true)
    (m_Ground : PySem.W.nsIn K mainGlobals "Ground" = some (some (.ref A_Ground)))
    (ic_BadGround : PySem.W.isClsIn K A_BadGround = true)
    (e_BadGround_BadGround : PySem.W.subIn K (.ref A_BadGround) (.ref A_BadGround) = some true)
    (ic_NoNumber : PySem.W.isClsIn K A_NoNumber = true)
    (e_NoNumber_NoNumber : PySem.W.subIn K (.ref A_NoNumber) (.ref A_NoNumber) = some true) : Tx K mg { ad0 with NoNumber := A_NoNumber, BadGround := A_BadGround, Ground := A_Ground, ot := ⟨[A_Ground], [(A_Ground, A_Ground, true)]⟩ } := {
    a_is_integer := fa_is_integer, fd_is_integer := _, F_is_integer := fun_mk (st := s_is_integer) l_is_integer c_is_integer k_is_integer
    m_is_integer := PySem.W.mg_of X G a_is_integer
    b_is_integer := (fun_mk (st := s_is_integer) l_is_integer c_is_integer k_is_integer).binds (ps := [Str.ofString "thing"]) fun _ _ _ _ _ _ us hl => match us, hl with | [_], _ => rfl
    a_is_within := fa_is_within, fd_is_within := _, F_is_within := fun_mk (st := s_is_within) l_is_within c_is_within k_is_within
    m_is_within := PySem.W.mg_of X G a_is_within
    b_is_within := (fun_mk (st := s_is_within) l_is_within c_is_within k_is_within).binds (ps := [Str.ofString "thing", Str.ofString "least", Str.ofString "most"]) fun _ _ _ _ _ _ us hl => match us, hl with | [_, _, _], _ => rfl
    a_is_sized := fa_is_sized, fd_is_sized := _, F_is_sized := fun_mk (st := s_is_sized) l_is_sized c_is_sized k_is_sized
    m_is_sized := PySem.W.mg_of X G a_is_sized
    b_is_sized := (fun_mk (st := s_is_sized) l_is_sized c_is_sized k_is_sized).binds (ps := [Str.ofString "thing", Str.ofString "least", Str.ofString "most"]) fun _ _ _ _ _ _ us hl => match us, hl with | [_, _, _], _ => rfl
    a_check_integers := fa_check_integers, fd_check_integers := _, F_check_integers := fun_mk (st := s_check_integers) l_check_integers c_check_integers k_check_integers
    m_check_integers := PySem.W.mg_of X G a_check_integers
    b_check_integers := (fun_mk (st := s_check_integers) l_check_integers c_check_integers k_check_integers).binds (ps := [Str.ofString "things"]) fun _ _ _ _ _ _ us hl => match us, hl with | [_], _ => rfl
    a_check_within := fa_check_within, fd_check_within := _, F_check_within := fun_mk (st := s_check_within) l_check_within c_check_within k_check_within
    m_check_within := PySem.W.mg_of X G a_check_within
    b_check_within := (fun_mk (st := s_check_within) l_check_within c_check_within k_check_within).binds (ps := [Str.ofString "thing", Str.ofString "least", Str.ofString "most"]) fun _ _ _ _ _ _ us hl => match us, hl with | [_, _, _], _ => rfl
    a_is_row := fa_is_row, fd_is_row := _, F_is_row := fun_mk (st := s_is_row) l_is_row c_is_row k_is_row
    m_is_row := PySem.W.mg_of X G a_is_row
    b_is_row := (fun_mk (st := s_is_row) l_is_row c_is_row k_is_row).binds (ps := [Str.ofString "thing"]) fun _ _ _ _ _ _ us hl => match us, hl with | [_], _ => rfl
    a_Ground_init := fa_Ground_init, fd_Ground_init := _, F_Ground_init := fun_mk (st := s_Ground_init) l_Ground_init c_Ground_init k_Ground_init
    b_Ground_init := (fun_mk (st := s_Ground_init) l_Ground_init c_Ground_init k_Ground_init).binds (ps := [Str.ofString "self", Str.ofString "rows"]) fun _ _ _ _ _ _ us hl => match us, hl with | [_, _], _ => rfl
    a_Ground_eq := fa_Ground_eq, fd_Ground_eq := _, F_Ground_eq := fun_mk (st := s_Ground_eq) l_Ground_eq c_Ground_eq k_Ground_eq
    b_Ground_eq := (fun_mk (st := s_Ground_eq) l_Ground_eq c_Ground_eq k_Ground_eq).binds (ps := [Str.ofString "self", Str.ofString "other"]) fun _ _ _ _ _ _ us hl => match us, hl with | [_, _], _ => rfl
    a_sign_of := fa_sign_of, fd_sign_of := _, F_sign_of := fun_mk (st := s_sign_of) l_sign_of c_sign_of k_sign_of
    m_sign_of := PySem.W.mg_of X G a_sign_of
    b_sign_of := (fun_mk (st := s_sign_of) l_sign_of c_sign_of k_sign_of).binds (ps := [Str.ofString "ground", Str.ofString "x", Str.ofString "y"]) fun _ _ _ _ _ _ us hl => match us, hl with | [_, _, _], _ => rfl
    a_sign_at := fa_sign_at, fd_sign_at := _, F_sign_at := fun_mk (st := s_sign_at) l_sign_at c_sign_at k_sign_at
    m_sign_at := PySem.W.mg_of X G a_sign_at
    b_sign_at := (fun_mk (st := s_sign_at) l_sign_at c_sign_at k_sign_at).binds (ps := [Str.ofString "ground", Str.ofString "x", Str.ofString "y"]) fun _ _ _ _ _ _ us hl => match us, hl with | [_, _, _], _ => rfl
    a_spanned := fa_spanned, fd_spanned := _, F_spanned := fun_mk (st := s_spanned) l_spanned c_spanned k_spanned
    m_spanned := PySem.W.mg_of X G a_spanned
    b_spanned := (fun_mk (st := s_spanned) l_spanned c_spanned k_spanned).binds (ps := [Str.ofString "begin", Str.ofString "length"]) fun _ _ _ _ _ _ us hl => match us, hl with | [_, _], _ => rfl
    a_opens := fa_opens, fd_opens := _, F_opens := fun_mk (st := s_opens) l_opens c_opens k_opens
    m_opens := PySem.W.mg_of X G a_opens
    b_opens := (fun_mk (st := s_opens) l_opens c_opens k_opens).binds (ps := [Str.ofString "ground", Str.ofString "x", Str.ofString "y", Str.ofString "wide", Str.ofString "high"]) fun _ _ _ _ _ _ us hl => match us, hl with | [_, _, _, _, _], _ => rfl
    a_is_open := fa_is_open, fd_is_open := _, F_is_open := fun_mk (st := s_is_open) l_is_open c_is_open k_is_open
    m_is_open := PySem.W.mg_of X G a_is_open
    b_is_open := (fun_mk (st := s_is_open) l_is_open c_is_open k_is_open).binds (ps := [Str.ofString "ground", Str.ofString "x", Str.ofString "y", Str.ofString "wide", Str.ofString "high"]) fun _ _ _ _ _ _ us hl => match us, hl with | [_, _, _, _, _], _ => rfl
    a__law_hand := fa__law_hand, fd__law_hand := _, F__law_hand := fun_mk (st := s__law_hand) l__law_hand c__law_hand k__law_hand
    m__law_hand := PySem.W.mg_of X G a__law_hand
    b__law_hand := (fun_mk (st := s__law_hand) l__law_hand c__law_hand k__law_hand).binds (ps := [Str.ofString "_law_script"]) fun _ _ _ _ _ _ us hl => match us, hl with | [_], _ => rfl
    a__law_take := fa__law_take, fd__law_take := _, F__law_take := fun_mk (st := s__law_take) l__law_take c__law_take k__law_take
    m__law_take := PySem.W.mg_of X G a__law_take
    b__law_take := (fun_mk (st := s__law_take) l__law_take c__law_take k__law_take).binds (ps := [Str.ofString "_law_hand_here", Str.ofString "_law_many"]) fun _ _ _ _ _ _ us hl => match us, hl with | [_, _], _ => rfl
    a__law_pick := fa__law_pick, fd__law_pick := _, F__law_pick := fun_mk (st := s__law_pick) l__law_pick c__law_pick k__law_pick
    m__law_pick := PySem.W.mg_of X G a__law_pick
    b__law_pick := (fun_mk (st := s__law_pick) l__law_pick c__law_pick k__law_pick).binds (ps := [Str.ofString "_law_hand_here", Str.ofString "_law_things"]) fun _ _ _ _ _ _ us hl => match us, hl with | [_, _], _ => rfl
    a__law_great := fa__law_great, fd__law_great := _, F__law_great := fun_mk (st := s__law_great) l__law_great c__law_great k__law_great
    m__law_great := PySem.W.mg_of X G a__law_great
    b__law_great := (fun_mk (st := s__law_great) l__law_great c__law_great k__law_great).binds (ps := [Str.ofString "_law_hand_here"]) fun _ _ _ _ _ _ us hl => match us, hl with | [_], _ => rfl
    a__law_is_integer := fa__law_is_integer, fd__law_is_integer := _, F__law_is_integer := fun_mk (st := s__law_is_integer) l__law_is_integer c__law_is_integer k__law_is_integer
    m__law_is_integer := PySem.W.mg_of X G a__law_is_integer
    b__law_is_integer := (fun_mk (st := s__law_is_integer) l__law_is_integer c__law_is_integer k__law_is_integer).binds (ps := [Str.ofString "_law_thing"]) fun _ _ _ _ _ _ us hl => match us, hl with | [_], _ => rfl
    a__law_is_within := fa__law_is_within, fd__law_is_within := _, F__law_is_within := fun_mk (st := s__law_is_within) l__law_is_within c__law_is_within k__law_is_within
    m__law_is_within := PySem.W.mg_of X G a__law_is_within
    b__law_is_within := (fun_mk (st := s__law_is_within) l__law_is_within c__law_is_within k__law_is_within).binds (ps := [Str.ofString "_law_thing", Str.ofString "_law_least", Str.ofString "_law_most"]) fun _ _ _ _ _ _ us hl => match us, hl with | [_, _, _], _ => rfl
    a__law_same := fa__law_same, fd__law_same := _, F__law_same := fun_mk (st := s__law_same) l__law_same c__law_same k__law_same
    m__law_same := PySem.W.mg_of X G a__law_same
    b__law_same := (fun_mk (st := s__law_same) l__law_same c__law_same k__law_same).binds (ps := [Str.ofString "_law_actual", Str.ofString "_law_due"]) fun _ _ _ _ _ _ us hl => match us, hl with | [_, _], _ => rfl
    a__law_odd := fa__law_odd, fd__law_odd := _, F__law_odd := fun_mk (st := s__law_odd) l__law_odd c__law_odd k__law_odd
    m__law_odd := PySem.W.mg_of X G a__law_odd
    b__law_odd := (fun_mk (st := s__law_odd) l__law_odd c__law_odd k__law_odd).binds (ps := [Str.ofString "_law_hand_here"]) fun _ _ _ _ _ _ us hl => match us, hl with | [_], _ => rfl
    a__law_ground_sign := fa__law_ground_sign, fd__law_ground_sign := _, F__law_ground_sign := fun_mk (st := s__law_ground_sign) l__law_ground_sign c__law_ground_sign k__law_ground_sign
    m__law_ground_sign := PySem.W.mg_of X G a__law_ground_sign
    b__law_ground_sign := (fun_mk (st := s__law_ground_sign) l__law_ground_sign c__law_ground_sign k__law_ground_sign).binds (ps := [Str.ofString "_law_hand_here", Str.ofString "_law_full"]) fun _ _ _ _ _ _ us hl => match us, hl with | [_, _], _ => rfl
    a__law_rows := fa__law_rows, fd__law_rows := _, F__law_rows := fun_mk (st := s__law_rows) l__law_rows c__law_rows k__law_rows
    m__law_rows := PySem.W.mg_of X G a__law_rows
    b__law_rows := (fun_mk (st := s__law_rows) l__law_rows c__law_rows k__law_rows).binds (ps := [Str.ofString "_law_hand_here", Str.ofString "_law_wide", Str.ofString "_law_high"]) fun _ _ _ _ _ _ us hl => match us, hl with | [_, _, _], _ => rfl
    a__law_ground := fa__law_ground, fd__law_ground := _, F__law_ground := fun_mk (st := s__law_ground) l__law_ground c__law_ground k__law_ground
    m__law_ground := PySem.W.mg_of X G a__law_ground
    b__law_ground := (fun_mk (st := s__law_ground) l__law_ground c__law_ground k__law_ground).binds (ps := [Str.ofString "_law_hand_here"]) fun _ _ _ _ _ _ us hl => match us, hl with | [_], _ => rfl
    a__law_sign := fa__law_sign, fd__law_sign := _, F__law_sign := fun_mk (st := s__law_sign) l__law_sign c__law_sign k__law_sign
    m__law_sign := PySem.W.mg_of X G a__law_sign
    b__law_sign := (fun_mk (st := s__law_sign) l__law_sign c__law_sign k__law_sign).binds (ps := [Str.ofString "_law_rows_here", Str.ofString "_law_x", Str.ofString "_law_y"]) fun _ _ _ _ _ _ us hl => match us, hl with | [_, _, _], _ => rfl
    a__law_first_bad := fa__law_first_bad, fd__law_first_bad := _, F__law_first_bad := fun_mk (st := s__law_first_bad) l__law_first_bad c__law_first_bad k__law_first_bad
    m__law_first_bad := PySem.W.mg_of X G a__law_first_bad
    b__law_first_bad := (fun_mk (st := s__law_first_bad) l__law_first_bad c__law_first_bad k__law_first_bad).binds (ps := [Str.ofString "_law_thing"]) fun _ _ _ _ _ _ us hl => match us, hl with | [_], _ => rfl
    a__law_large := fa__law_large, fd__law_large := _, F__law_large := fun_mk (st := s__law_large) l__law_large c__law_large k__law_large
    m__law_large := PySem.W.mg_of X G a__law_large
    b__law_large := (fun_mk (st := s__law_large) l__law_large c__law_large k__law_large).binds (ps := [Str.ofString "_law_hand_here"]) fun _ _ _ _ _ _ us hl => match us, hl with | [_], _ => rfl
    a__law_spoiled := fa__law_spoiled, fd__law_spoiled := _, F__law_spoiled := fun_mk (st := s__law_spoiled) l__law_spoiled c__law_spoiled k__law_spoiled
    m__law_spoiled := PySem.W.mg_of X G a__law_spoiled
    b__law_spoiled := (fun_mk (st := s__law_spoiled) l__law_spoiled c__law_spoiled k__law_spoiled).binds (ps := [Str.ofString "_law_hand_here", Str.ofString "_law_rows_here"]) fun _ _ _ _ _ _ us hl => match us, hl with | [_, _], _ => rfl
    a__law_made := fa__law_made, fd__law_made := _, F__law_made := fun_mk (st := s__law_made) l__law_made c__law_made k__law_made
    m__law_made := PySem.W.mg_of X G a__law_made
    b__law_made := (fun_mk (st := s__law_made) l__law_made c__law_made k__law_made).binds (ps := [Str.ofString "_law_rows_here"]) fun _ _ _ _ _ _ us hl => match us, hl with | [_], _ => rfl
    a__law_signed := fa__law_signed, fd__law_signed := _, F__law_signed := fun_mk (st := s__law_signed) l__law_signed c__law_signed k__law_signed
    m__law_signed := PySem.W.mg_of X G a__law_signed
    b__law_signed := (fun_mk (st := s__law_signed) l__law_signed c__law_signed k__law_signed).binds (ps := [Str.ofString "_law_ground_here", Str.ofString "_law_x", Str.ofString "_law_y"]) fun _ _ _ _ _ _ us hl => match us, hl with | [_, _, _], _ => rfl
    a__law_opened := fa__law_opened, fd__law_opened := _, F__law_opened := fun_mk (st := s__law_opened) l__law_opened c__law_opened k__law_opened
    m__law_opened := PySem.W.mg_of X G a__law_opened
    b__law_opened := (fun_mk (st := s__law_opened) l__law_opened c__law_opened k__law_opened).binds (ps := [Str.ofString "_law_ground_here", Str.ofString "_law_x", Str.ofString "_law_y", Str.ofString "_law_wide", Str.ofString "_law_high"]) fun _ _ _ _ _ _ us hl => match us, hl with | [_, _, _, _, _], _ => rfl
    a__law_units_open := fa__law_units_open, fd__law_units_open := _, F__law_units_open := fun_mk (st := s__law_units_open) l__law_units_open c__law_units_open k__law_units_open
    m__law_units_open := PySem.W.mg_of X G a__law_units_open
    b__law_units_open := (fun_mk (st := s__law_units_open) l__law_units_open c__law_units_open k__law_units_open).binds (ps := [Str.ofString "_law_rows_here", Str.ofString "_law_x", Str.ofString "_law_y", Str.ofString "_law_wide", Str.ofString "_law_high"]) fun _ _ _ _ _ _ us hl => match us, hl with | [_, _, _, _, _], _ => rfl
    a__law_where := fa__law_where, fd__law_where := _, F__law_where := fun_mk (st := s__law_where) l__law_where c__law_where k__law_where
    m__law_where := PySem.W.mg_of X G a__law_where
    b__law_where := (fun_mk (st := s__law_where) l__law_where c__law_where k__law_where).binds (ps := [Str.ofString "_law_hand_here", Str.ofString "_law_long"]) fun _ _ _ _ _ _ us hl => match us, hl with | [_, _], _ => rfl
    a__law_side := fa__law_side, fd__law_side := _, F__law_side := fun_mk (st := s__law_side) l__law_side c__law_side k__law_side
    m__law_side := PySem.W.mg_of X G a__law_side
    b__law_side := (fun_mk (st := s__law_side) l__law_side c__law_side k__law_side).binds (ps := [Str.ofString "_law_hand_here"]) fun _ _ _ _ _ _ us hl => match us, hl with | [_], _ => rfl
    a__law_asked := fa__law_asked, fd__law_asked := _, F__law_asked := fun_mk (st := s__law_asked) l__law_asked c__law_asked k__law_asked
    m__law_asked := PySem.W.mg_of X G a__law_asked
    b__law_asked := (fun_mk (st := s__law_asked) l__law_asked c__law_asked k__law_asked).binds (ps := [Str.ofString "_law_hand_here", Str.ofString "_law_rows_here", Str.ofString "_law_ground_here"]) fun _ _ _ _ _ _ us hl => match us, hl with | [_, _, _], _ => rfl
    a_law := fa_law, fd_law := _, F_law := fun_mk (st := s_law) l_law c_law k_law
    m_law := PySem.W.mg_of X G a_law
    b_law := (fun_mk (st := s_law) l_law c_law k_law).binds (ps := [Str.ofString "_law_script"]) fun _ _ _ _ _ _ us hl => match us, hl with | [_], _ => rfl
    u_CELL := _, m_CELL := PySem.W.mg_of X G m_CELL, v_CELL := v_int
    u_FREE := _, m_FREE := PySem.W.mg_of X G m_FREE, v_FREE := v_str
    u_MARKS := _, m_MARKS := PySem.W.mg_of X G m_MARKS, v_MARKS := v_str
    u_MOST_ROWS := _, m_MOST_ROWS := PySem.W.mg_of X G m_MOST_ROWS, v_MOST_ROWS := v_int
    u_MOST_SIDE := _, m_MOST_SIDE := PySem.W.mg_of X G m_MOST_SIDE, v_MOST_SIDE := v_int
    u_MOST_SIGNS := _, m_MOST_SIGNS := PySem.W.mg_of X G m_MOST_SIGNS, v_MOST_SIGNS := v_int
    u_WALL := _, m_WALL := PySem.W.mg_of X G m_WALL, v_WALL := v_str
    n_all := PySem.W.mg_none_of X G n_all
    n_any := PySem.W.mg_none_of X G n_any
    n_bool := PySem.W.mg_none_of X G n_bool
    n_enumerate := PySem.W.mg_none_of X G n_enumerate
    n_int := PySem.W.mg_none_of X G n_int
    n_isinstance := PySem.W.mg_none_of X G n_isinstance
    n_len := PySem.W.mg_none_of X G n_len
    n_list := PySem.W.mg_none_of X G n_list
    n_range := PySem.W.mg_none_of X G n_range
    n_str := PySem.W.mg_none_of X G n_str
    n_tuple := PySem.W.mg_none_of X G n_tuple
    n_zip := PySem.W.mg_none_of X G n_zip
    me_Ground_eq := ⟨a_Ground_eq, i_Ground_eq, k_Ground_eq⟩
    mk_Ground := ⟨mkc_Ground, a_Ground_init, i_Ground_init, kc_Ground⟩
    c_Ground := ⟨pg_Ground, hd_Ground, po_Ground, sa_Ground⟩
    na_Ground_high := na_Ground_high
    na_Ground_rows := na_Ground_rows
    na_Ground_wide := na_Ground_wide
    ot := ⟨(ot_own ⟨⟨pg_Ground, hd_Ground, po_Ground, sa_Ground⟩, oa_Ground, oh_n, oh_t, om_Ground, ic_Ground, ot_Ground, nb6 on_Ground_int on_Ground_bool on_Ground_str on_Ground_tuple on_Ground_list on_Ground_dict⟩ ot_nil), (ot_sub kit_self ot_nil2)⟩
    m_NoNumber := PySem.W.mg_of X G m_NoNumber
    x_NoNumber := ⟨xq_NoNumber, xk_NoNumber, xb_NoNumber, xt_NoNumber⟩
    m_BadGround := PySem.W.mg_of X G m_BadGround
    o_BadGround := ⟨⟨_, _, _, _, _, _, _, _, _, _, _, _, _, _, _, xl_BadGround, (ve_step ve_base)⟩, sa_BadGround, xb_BadGround, xt_BadGround, xk_BadGround⟩
    z_BadGround := ⟨ga_BadGround, gg_BadGround, xb_BadGround, hd_BadGround⟩, nf_BadGround := nf_BadGround, ai_BadGround := fi_BadGround, fdi_BadGround := _, i_BadGround := i_BadGround, t_BadGround := t_BadGround
    Fi_BadGround := fun_mk (st := s_BadGround_init) l_BadGround_init c_BadGround_init k_BadGround_init
    bi_BadGround := (fun_mk (st := s_BadGround_init) l_BadGround_init c_BadGround_init k_BadGround_init).binds (ps := [Str.ofString "self", Str.ofString "part"]) fun _ _ _ _ _ _ us hl => match us, hl with | [_, _], _ => rfl
    m_Ground := PySem.W.mg_of X G m_Ground
    e_BadGround_BadGround := exm_mk xb_BadGround ic_BadGround xt_BadGround e_BadGround_BadGround
    e_NoNumber_NoNumber := exm_mk xb_NoNumber ic_NoNumber xt_NoNumber e_NoNumber_NoNumber
    otok := ⟨List.mem_singleton.mpr rfl, List.mem_singleton.mpr rfl⟩ }
theorem law_mk {P : Program} {w : World} {K : PySem.W.Frag} {h : Heap} {mg : Str → Option Value} {A : Ad} {fa : Addr} (hfa : mg "law" = some (.ref fa)) (T : Tx K mg A) :
    ∃ fd : FuncData, (∀ (s : Shared) (v : Value), BindsTo s fd ⟨[v], []⟩ [(Str.ofString "_law_script", v)]) ∧ ∀ base : Heap, K.In base → base.Ns mainGlobals mg → FnD P w K mg base 7 fa fd [Str.ofString "_law_script"] spLaw := by
  have e := hfa.symm.trans T.m_law
  cases e
  refine ⟨T.fd_law, fun s v => ?_, fun base _ _ => all_mk_ok T⟩
  obtain ⟨oc, od, kV, doc, pm, an, cdv, ct, osl, e, _, _⟩ := T.F_law.ex
  rw [e]
  exact .of_eq rfl
end Lw
open PySem PySem.W PyProof.Rows
set_option maxRecDepth 100000 in
set_option maxHeartbeats 0 in
theorem PySem.Challenge.cw_guessedworlds_k02_grounds_judged_and_ope_holds : PySem.Challenge.rw_guessedworlds_k02_grounds_judged_and_ope.Holds := by
  w_on; o_law; k_head; (case hw => w_witness2)
  k_fill
  refine VD.walkG (l := PySem.Challenge.rw_guessedworlds_k02_grounds_judged_and_ope) (n := 63) (k := 7) (x := "_law_script") (CX := fun w => L2.CX PySem.Challenge.rw_guessedworlds_k02_grounds_judged_and_ope.prog w) (sp := fun w => VD.lowF _ VD.spLaw) rfl (by decide) rfl ⟨⟨rfl, by decide, by decide⟩, rfl⟩ (fun w h Y => PySem.W.kIn_of Y) ?F (fun _ _ a ns hl hS => VD.law_in hl hS) (fun _ H s e s' h => VD.law_out H s e s' h)
  case F =>
    intro w mg fa h KX G hmg
    refine' Lw.law_mk (h := h) hmg (Lw.tx_mk KX G ?a_is_integer ?l_is_integer ?c_is_integer ?k_is_integer ?a_is_within ?l_is_within ?c_is_within ?k_is_within ?a_is_sized ?l_is_sized ?c_is_sized ?k_is_sized ?a_check_integers ?l_check_integers ?c_check_integers ?k_check_integers ?a_check_within ?l_check_within ?c_check_within ?k_check_within ?a_is_row ?l_is_row ?c_is_row ?k_is_row ?a_Ground_init ?l_Ground_init ?c_Ground_init ?k_Ground_init ?a_Ground_eq ?l_Ground_eq ?c_Ground_eq ?k_Ground_eq ?a_sign_of ?l_sign_of ?c_sign_of ?k_sign_of ?a_sign_at ?l_sign_at ?c_sign_at ?k_sign_at ?a_spanned ?l_spanned ?c_spanned ?k_spanned ?a_opens ?l_opens ?c_opens ?k_opens ?a_is_open ?l_is_open ?c_is_open ?k_is_open ?a__law_hand ?l__law_hand ?c__law_hand ?k__law_hand ?a__law_take ?l__law_take ?c__law_take ?k__law_take ?a__law_pick ?l__law_pick ?c__law_pick ?k__law_pick ?a__law_great ?l__law_great ?c__law_great ?k__law_great ?a__law_is_integer ?l__law_is_integer ?c__law_is_integer ?k__law_is_integer ?a__law_is_within ?l__law_is_within ?c__law_is_within ?k__law_is_within ?a__law_same ?l__law_same ?c__law_same ?k__law_same ?a__law_odd ?l__law_odd ?c__law_odd ?k__law_odd ?a__law_ground_sign ?l__law_ground_sign ?c__law_ground_sign ?k__law_ground_sign ?a__law_rows ?l__law_rows ?c__law_rows ?k__law_rows ?a__law_ground ?l__law_ground ?c__law_ground ?k__law_ground ?a__law_sign ?l__law_sign ?c__law_sign ?k__law_sign ?a__law_first_bad ?l__law_first_bad ?c__law_first_bad ?k__law_first_bad ?a__law_large ?l__law_large ?c__law_large ?k__law_large ?a__law_spoiled ?l__law_spoiled ?c__law_spoiled ?k__law_spoiled ?a__law_made ?l__law_made ?c__law_made ?k__law_made ?a__law_signed ?l__law_signed ?c__law_signed ?k__law_signed ?a__law_opened ?l__law_opened ?c__law_opened ?k__law_opened ?a__law_units_open ?l__law_units_open ?c__law_units_open ?k__law_units_open ?a__law_where ?l__law_where ?c__law_where ?k__law_where ?a__law_side ?l__law_side ?c__law_side ?k__law_side ?a__law_asked ?l__law_asked ?c__law_asked ?k__law_asked ?a_law ?l_law ?c_law ?k_law ?m_CELL ?m_FREE ?m_MARKS ?m_MOST_ROWS ?m_MOST_SIDE ?m_MOST_SIGNS ?m_WALL ?n_all ?n_any ?n_bool ?n_enumerate ?n_int ?n_isinstance ?n_len ?n_list ?n_range ?n_str ?n_tuple ?n_zip ?i_Ground_eq ?i_Ground_init ?mkc_Ground ?kc_Ground ?pg_Ground ?hd_Ground ?po_Ground ?sa_Ground ?na_Ground_high ?na_Ground_rows ?na_Ground_wide ?oa_Ground ?om_Ground ?ic_Ground ?ot_Ground ?on_Ground_int ?on_Ground_bool ?on_Ground_str ?on_Ground_tuple ?on_Ground_list ?on_Ground_dict ?oh_n ?oh_t ?m_NoNumber ?xq_NoNumber ?xk_NoNumber ?xb_NoNumber ?xt_NoNumber ?m_BadGround ?xl_BadGround ?sa_BadGround ?ga_BadGround ?gg_BadGround ?xk_BadGround ?xb_BadGround ?xt_BadGround ?hd_BadGround ?nf_BadGround ?i_BadGround ?t_BadGround ?l_BadGround_init ?c_BadGround_init ?k_BadGround_init ?m_Ground ?ic_BadGround ?e_BadGround_BadGround ?ic_NoNumber ?e_NoNumber_NoNumber)
    (case m_NoNumber => k_is); (case m_BadGround => k_is); (case m_Ground => k_is); (case a_is_integer => k_is); (case l_is_integer => k_is); (case c_is_integer => k_is); (case k_is_integer => k_is); (case a_is_within => k_is); (case l_is_within => k_is); (case c_is_within => k_is); (case k_is_within => k_is); (case a_is_sized => k_is); (case l_is_sized => k_is); (case c_is_sized => k_is); (case k_is_sized => k_is); (case a_check_integers => k_is); (case l_check_integers => k_is); (case c_check_integers => k_is); (case k_check_integers => k_is); (case a_check_within => k_is); (case l_check_within => k_is); (case c_check_within => k_is); (case k_check_within => k_is); (case a_is_row => k_is); (case l_is_row => k_is); (case c_is_row => k_is); (case k_is_row => k_is); (case a_Ground_init => k_is); (case l_Ground_init => k_is); (case c_Ground_init => k_is); (case k_Ground_init => k_is); (case a_Ground_eq => k_is); (case l_Ground_eq => k_is); (case c_Ground_eq => k_is); (case k_Ground_eq => k_is); (case a_sign_of => k_is); (case l_sign_of => k_is); (case c_sign_of => k_is); (case k_sign_of => k_is); (case a_sign_at => k_is); (case l_sign_at => k_is); (case c_sign_at => k_is); (case k_sign_at => k_is); (case a_spanned => k_is); (case l_spanned => k_is); (case c_spanned => k_is); (case k_spanned => k_is); (case a_opens => k_is); (case l_opens => k_is); (case c_opens => k_is); (case k_opens => k_is); (case a_is_open => k_is); (case l_is_open => k_is); (case c_is_open => k_is); (case k_is_open => k_is); (case a__law_hand => k_is); (case l__law_hand => k_is); (case c__law_hand => k_is); (case k__law_hand => k_is); (case a__law_take => k_is); (case l__law_take => k_is); (case c__law_take => k_is); (case k__law_take => k_is); (case a__law_pick => k_is); (case l__law_pick => k_is); (case c__law_pick => k_is); (case k__law_pick => k_is); (case a__law_great => k_is); (case l__law_great => k_is); (case c__law_great => k_is); (case k__law_great => k_is); (case a__law_is_integer => k_is); (case l__law_is_integer => k_is); (case c__law_is_integer => k_is); (case k__law_is_integer => k_is); (case a__law_is_within => k_is); (case l__law_is_within => k_is); (case c__law_is_within => k_is); (case k__law_is_within => k_is); (case a__law_same => k_is); (case l__law_same => k_is); (case c__law_same => k_is); (case k__law_same => k_is); (case a__law_odd => k_is); (case l__law_odd => k_is); (case c__law_odd => k_is); (case k__law_odd => k_is); (case a__law_ground_sign => k_is); (case l__law_ground_sign => k_is); (case c__law_ground_sign => k_is); (case k__law_ground_sign => k_is); (case a__law_rows => k_is); (case l__law_rows => k_is); (case c__law_rows => k_is); (case k__law_rows => k_is); (case a__law_ground => k_is); (case l__law_ground => k_is); (case c__law_ground => k_is); (case k__law_ground => k_is); (case a__law_sign => k_is); (case l__law_sign => k_is); (case c__law_sign => k_is); (case k__law_sign => k_is); (case a__law_first_bad => k_is); (case l__law_first_bad => k_is); (case c__law_first_bad => k_is); (case k__law_first_bad => k_is); (case a__law_large => k_is); (case l__law_large => k_is); (case c__law_large => k_is); (case k__law_large => k_is); (case a__law_spoiled => k_is); (case l__law_spoiled => k_is); (case c__law_spoiled => k_is); (case k__law_spoiled => k_is); (case a__law_made => k_is); (case l__law_made => k_is); (case c__law_made => k_is); (case k__law_made => k_is); (case a__law_signed => k_is); (case l__law_signed => k_is); (case c__law_signed => k_is); (case k__law_signed => k_is); (case a__law_opened => k_is); (case l__law_opened => k_is); (case c__law_opened => k_is); (case k__law_opened => k_is); (case a__law_units_open => k_is); (case l__law_units_open => k_is); (case c__law_units_open => k_is); (case k__law_units_open => k_is); (case a__law_where => k_is); (case l__law_where => k_is); (case c__law_where => k_is); (case k__law_where => k_is); (case a__law_side => k_is); (case l__law_side => k_is); (case c__law_side => k_is); (case k__law_side => k_is); (case a__law_asked => k_is); (case l__law_asked => k_is); (case c__law_asked => k_is); (case k__law_asked => k_is); (case a_law => k_is); (case l_law => k_is); (case c_law => k_is); (case k_law => k_is); (case m_CELL => k_is); (case m_FREE => k_is); (case m_MARKS => k_is); (case m_MOST_ROWS => k_is); (case m_MOST_SIDE => k_is); (case m_MOST_SIGNS => k_is); (case m_WALL => k_is); (case n_all => k_is); (case n_any => k_is); (case n_bool => k_is); (case n_enumerate => k_is); (case n_int => k_is); (case n_isinstance => k_is); (case n_len => k_is); (case n_list => k_is); (case n_range => k_is); (case n_str => k_is); (case n_tuple => k_is); (case n_zip => k_is); (case i_Ground_eq => k_is); (case i_Ground_init => k_is); (case mkc_Ground => k_is); (case kc_Ground => k_is); (case pg_Ground => k_is); (case hd_Ground => k_is); (case po_Ground => k_is); (case sa_Ground => k_is); (case na_Ground_high => k_is); (case na_Ground_rows => k_is); (case na_Ground_wide => k_is); (case oa_Ground => k_is); (case om_Ground => k_is); (case ic_Ground => k_is); (case ot_Ground => k_is); (case on_Ground_int => k_is); (case on_Ground_bool => k_is); (case on_Ground_str => k_is); (case on_Ground_tuple => k_is); (case on_Ground_list => k_is); (case on_Ground_dict => k_is); (case oh_n => k_is); (case oh_t => k_is); (case xq_NoNumber => k_exc); (case xk_NoNumber => k_is); (case xb_NoNumber => k_is); (case xt_NoNumber => k_is); (case xl_BadGround => k_is); (case sa_BadGround => k_is); (case ga_BadGround => k_is); (case gg_BadGround => k_is); (case xk_BadGround => k_is); (case xb_BadGround => k_is); (case xt_BadGround => k_is); (case hd_BadGround => k_is); (case nf_BadGround => k_is); (case i_BadGround => k_is); (case t_BadGround => k_is); (case l_BadGround_init => k_is); (case c_BadGround_init => k_is); (case k_BadGround_init => k_is); (case ic_BadGround => k_is); (case e_BadGround_BadGround => k_is); (case ic_NoNumber => k_is); (case e_NoNumber_NoNumber => k_is)
