import PyProof.Rows.All
import Wide.All
import OpenK.AllK
import Wide.FinOn
import HandS.ForMost
import HandS.ForExc
import HandS.IsInst
import HandS.TupAny
import HandS.Wide
import HandS.TupMul
import HandS.TryMany
import HandS.More
import PyProof.LongRange
import HandS.Zip
import HandS.Style
import PyProof.StrOps2
import HandS.ExcInit
import HandS.ExcField
import HandS.Deep
import PySem.Challenge.RW_guessedworlds_k26_whole_inputs_as_rows
set_option Elab.async false
set_option linter.all false
set_option maxRecDepth 100000
set_option maxHeartbeats 4000000
/-! room in which no guard stands (repr may be asked), defs by such room, things that are frozen -/
namespace VD
open PySem PySem.Spec PyProof.Rows L2

/-- a list that is never written: the script, one that was frozen -/
def CL (K : PySem.W.Frag) (H : Hp) (a : Addr) (xs : List V) : Prop :=
  (∃ o, H a = some (.frz o (.lst xs))) ∨ ∃ (its : Array Value) (n : Nat), K.lookup a = some { cls := .type "list", data := .seq its n } ∧ its.size ≤ sizeLine ∧ Vals xs its.toList
theorem CL.sq {K : PySem.W.Frag} {H : Hp} {a : Addr} {xs : List V} (h : CL K H a xs) : SqL K H a xs := by
  rcases h with h | ⟨its, n, h1, h2, h3⟩
  · exact .inl (.inr h)
  · exact .inr ⟨_, its, n, h1, rfl, rfl, rfl, h2, h3⟩
/-- a list, as it stands -/
def LC (K : PySem.W.Frag) (H : Hp) (a : Addr) (xs : List V) : Prop := H a = some (.lst xs) ∨ CL K H a xs
theorem LC.sq {K : PySem.W.Frag} {H : Hp} {a : Addr} {xs : List V} (h : LC K H a xs) : SqL K H a xs := h.elim (fun h => .inl (.inl h)) CL.sq
section
variable {X : Cx} {pins : List (Addr × Obj)} {σ : L2.St} {H : Hp} {s : Shared} {l : Addr} {xs : List V}
theorem LC.at_ (I : Inv X pins σ H s) (h : LC X.K H l xs) : xs.length ≤ sizeLine ∧ ∃ (its : List Value) (n : Nat), Vals xs its ∧ xs.length = its.length ∧ s.heap.get? l = some { cls := .type "list", data := .seq its.toArray n } := by
  rcases h with h | ⟨o, h⟩ | ⟨its, n, h1, h2, h3⟩
  · exact I.lstM h
  · obtain ⟨_, z, its, n, r, e⟩ := (show ObjOk X.prog X.w H s.heap l (.frz o (.lst xs)) from I.hok l _ h)
    exact ⟨z, its, n, r, r.length, e⟩
  · have e := h3.length
    exact ⟨by rw [e]; simpa using h2, its.toList, n, h3, e, by simpa using I.kIn l _ h1⟩
def rCatC (K : PySem.W.Frag) : R2 := fun x y H Q => ∃ l b xs zs, x = .ref l ∧ y = .ref b ∧ LC K H l xs ∧ LC K H b zs ∧ xs.length + zs.length ≤ sizeLine ∧ ∀ p, H p = none → Q (.ref p) (upd H p (.lst (xs ++ zs)))
theorem op_catC : OpR X (binaryOp .Add) (rCatC X.K) := by
  intro pins s σ H x y v u Q I rx ry h
  obtain ⟨l, b, xs, zs, rfl, rfl, hx, hy, hz, q⟩ := h
  obtain rfl : v = Value.ref l := rx
  obtain rfl : u = Value.ref b := ry
  obtain ⟨_, its, n, r, hl, e⟩ := hx.at_ I
  obtain ⟨_, its2, n2, r2, hl2, e2⟩ := hy.at_ I
  refine PySem.P.add_list e e2 ?_ (by rw [List.size_toArray, List.size_toArray, ← hl, ← hl2]; exact hz)
  rw [show its.toArray ++ its2.toArray = (its ++ its2).toArray by simp]
  exact ⟨.ref _, _, I.lnew (t' := s.toks) (r.append r2) (by rw [List.length_append]; exact hz), rfl, q _ I.fresh⟩
end
structure RoomG (k : Nat) (A : Around) : Prop where
  r : Room k A
  g : A.guards = some []
section
variable {A : Around} {j k : Nat}
theorem RoomG.mono (h : RoomG k A) (l : j ≤ k) : RoomG j A := ⟨h.r.mono l, h.g⟩
theorem RoomG.units (h : RoomG k A) : A.units + 64 < cLine := h.r.units
theorem RoomG.units0 (h : RoomG k A) : A.units < cLine := h.r.units0
theorem RoomG.deeper (h : RoomG (k + 1) A) (env : Env) : RoomG k (A.deeper env) := ⟨h.r.deeper env, h.g⟩
theorem RoomG.make (h : RoomG (k + 1) A) (C : Addr) (us : List Value) : RoomG k (A.under (.builtin "type.__call__" ⟨.ref C :: us, []⟩)) := ⟨h.r.make C us [], by
  have e : (Code.builtin "type.__call__" ⟨.ref C :: us, []⟩).guards = [] := by simp [Code.guards, Code.isGuard, guardIds]
  show pushGuards (Code.builtin "type.__call__" ⟨.ref C :: us, []⟩).guards A.guards = some []
  rw [e, h.g]; rfl⟩
end
structure FnG (P : Program) (w : World) (K : PySem.W.Frag) (mg : Str → Option Value) (base : Heap) (CX : CXT) (k : Nat) (f : Addr) (fd : FuncData) (ps : List Str) (sp : Sp) : Prop where
  len : ∀ vs H Q E, sp vs H Q E → vs.length = ps.length
  go : ∀ (A : Around) (outer : List Env) (s : Shared) (H : Hp) (args : Args) (us : List Value) (vs : List V) (Q : VK) (E : XK), RoomG k A → Env0 P w K mg base A outer s H → BindsTo s fd args (ps.zip us) → Vals vs us → sp vs H Q E →
    codeAny (model P w) A (.call (.ref f) args) (CR CX outer P w H s Q E) s
section
variable {P : Program} {w : World} {K : PySem.W.Frag} {mg : Str → Option Value} {base : Heap} {CX : CXT}
theorem FnG.of {k : Nat} {f : Addr} {fd : FuncData} {ps : List Str} {sp : Sp} (F : FnOk P w K mg base CX k f fd ps sp) : FnG P w K mg base CX k f fd ps sp := ⟨F.len, fun A outer s H args us vs Q E hr => F.run A outer s H args us vs Q E hr.r⟩
/-- a def by its body -/
theorem fnG_of {k : Nat} {f : Addr} {nm qual : Str} {prm : Arguments} {bd : List Stmt} {scp : Scope} {dV kV doc pm cdv ct oc : Value} {an od : Option Addr} {osl : Array (Option Value)} {N ps : List Str} {sp : Sp}
    (look : K.lookup f = some ⟨oc, od, .func (PySem.W.fnOf nm qual prm bd scp dV kV doc pm an cdv ct), osl⟩) (cod : PySem.W.codeIn K cdv qual = true) (Sc : FnScope N ps scp) (len : ∀ vs H Q E, sp vs H Q E → vs.length = ps.length)
    (bod : ∀ (A : Around) (outer : List Env) (s : Shared) (H : Hp) (vs : List V) (Q : VK) (E : XK), RoomG k (A.deeper (envOfC qual scp s.heap.objs.size f cdv)) → sp vs H Q E →
      ∃ t, PSs (cxOf CX P w K mg base N qual scp f cdv A outer s H E) bd t ∧ t { nx := fun _ H' => Q .non H', rt := Q } (start N vs) H) : FnG P w K mg base CX (k + 1) f (PySem.W.fnOf nm qual prm bd scp dV kV doc pm an cdv ct) ps sp := by
  constructor
  · exact len
  intro A outer s H args us vs Q E room env0 bind rel want
  have KX : K.In s.heap := env0.mod.kin.keeps fun b o e => (env0.bs b o e).1
  have kinds : ∀ y ∈ ps.zip us, scp.names.lookup y.1 = some .local ∨ (scp.names.lookup y.1 = some .cell ∧ ((cellsFrom (s.heap.objs.size + 1) scp.names []).lookup y.1).isSome = true) := by
    rintro ⟨n, v⟩ hy
    rcases Sc.par n (List.of_mem_zip hy).1 with q | q
    · exact .inl q
    · exact .inr ⟨q, PySem.W.cellsFrom_some _ _ _ (.inl q)⟩
  refine codeAny_call_function room.r.depth (KX _ _ look) rfl Sc.co Sc.gen rfl (PySem.W.codeRec_of KX cod) (bind _ _ _ _ (wpAny_newFunctionEnv_cells Sc.kind kinds fun env he s1 x => ?_))
  subst he
  refine ⟨(env0.mod.nolimit.keeps fun b o e => (env0.bs b o e).1).keeps x.toInCall.keep, codeAny_func ?_⟩
  obtain ⟨t, ht, hq⟩ := bod A outer s H vs Q E (room.deeper _) want
  refine wpAny_mono (ht.run [] s1 (start N vs) H _ (inv_start Sc room.r.hd env0 (len _ _ _ _ want) rel x) hq) (fun fl s' ends => ?_) fun e s' ends => ends
  cases fl with
  | brk => obtain ⟨_, _, _, q⟩ := ends; exact q.elim
  | cont => obtain ⟨_, _, _, q⟩ := ends; exact q.elim
  | next => obtain ⟨σ', H', J, q⟩ := ends; exact ⟨.non, H', J.os, J.bare, J.base, J.hok, rfl, q⟩
  | ret u => obtain ⟨v, σ', H', J, rv, q⟩ := ends; exact ⟨v, H', J.os, J.bare, J.base, J.hok, rv, q⟩
theorem funG {x qual : Str} {st : Stmt} {f : Addr} {fd : FuncData} {N ps : List Str} {k : Nat} {sp : Sp} (F : Fun K x qual st f fd) (Sc : FnScope N ps (defScope st)) (len : ∀ vs H Q E, sp vs H Q E → vs.length = ps.length)
    (bod : ∀ (cdv : Value) (A : Around) (outer : List Env) (s : Shared) (H : Hp) (vs : List V) (Q : VK) (E : XK), RoomG k (A.deeper (envOfC qual (defScope st) s.heap.objs.size f cdv)) → sp vs H Q E →
      ∃ t, PSs (cxOf (L2.CX P w) P w K mg base N qual (defScope st) f cdv A outer s H E) (defBody st) t ∧ t { nx := fun _ H' => Q .non H', rt := Q } (start N vs) H) : FnG P w K mg base (L2.CX P w) (k + 1) f fd ps sp := by
  obtain ⟨oc, od, kV, doc, pm, an, cdv, ct, osl, rfl, lk, hcd⟩ := F.ex
  exact fnG_of lk hcd Sc len (bod cdv)
end
section
variable {X : Cx} {CX : CXT} {k : Nat} {f C : Addr} {fd : FuncData} {ps : List Str} {sp : Sp} {E : L2.St → XK} {x m : Str} {p pos apos : Pos} {e o : Expr} {es : List Expr} {ta : TE} {t : TA}
theorem run_G {pins : List (Addr × Obj)} {σ : L2.St} {H : Hp} {s : Shared} {Q : VK} {us : List Value} {vs : List V} (F : FnG X.prog X.w X.K X.mg X.base CX k f fd ps sp) (hr : RoomG k X.A) (hb : Binds X.K fd ps []) (hx : PassesAt CX X σ (E σ)) (I : Inv X pins σ H s) (r : Vals vs us)
    (h : sp vs H Q (E σ)) : wpAny (model X.prog X.w) X.A (call (.ref f) us) (EP X pins σ Q) X.xe s := by
  have b := hb s us I.kIn (by rw [List.append_nil, ← r.length]; exact F.len _ _ _ _ h)
  rw [List.append_nil] at b
  refine wpAny_call (codeAny_mono (F.go X.A X.stack s H ⟨us, []⟩ us vs Q (E σ) hr I.env0 b r h) fun res s' hq => ?_)
  match res, hq with
  | .error e, hq => exact hx pins H s e s' I hq
  | .ok (.ret u), hq => exact I.after hq
  | .ok .next, hq => exact False.elim hq
  | .ok .brk, hq => exact False.elim hq
  | .ok .cont, hq => exact False.elim hq
theorem pe_callG (F : FnG X.prog X.w X.K X.mg X.base CX k f fd ps sp) (hr : RoomG k X.A) (hg : Gl X x) (hm : X.mg x = some (.ref f)) (hk : PySem.W.keepIn X.K (.ref f) = true) (hb : Binds X.K fd ps []) (hx : ∀ σ, PassesAt CX X σ (E σ)) (ha : PA X (e :: es) t)
    (hdb : (x == ("__debug__" : Str)) = false := by decide) (he : starEach (e :: es) X.env = (false, eval e X.env) :: starEach es X.env := by rfl) (hpl : (backTo pos (starEach es X.env)).any (·.1) = false := by rfl) : PE X (.Call (.Name x p) (e :: es) [] pos) (tCallS sp E t) := by
  constructor
  intro pins s σ H Q I h
  refine wpAny_Call_Name_kw (ld_glob I hg hm ?_ hdb)
  exact PySem.W.callWith_K (h₀ := X.base) I.ok.mod.kin hk (thn (ha.run pos pins s σ H _ I h) fun us s1 ⟨vs, H1, I1, r, q⟩ => ⟨I1.kIn, run_G F hr hb (hx σ) I1 r q⟩) he hpl
theorem pe_callG0 (F : FnG X.prog X.w X.K X.mg X.base CX k f fd ps sp) (hr : RoomG k X.A) (hg : Gl X x) (hm : X.mg x = some (.ref f)) (hk : PySem.W.keepIn X.K (.ref f) = true) (hb : Binds X.K fd ps []) (hx : ∀ σ, PassesAt CX X σ (E σ))
    (hdb : (x == ("__debug__" : Str)) = false := by decide) : PE X (.Call (.Name x p) [] [] pos) (tCallS sp E tNil) := by
  constructor
  intro pins s σ H Q I h
  refine wpAny_Call_Name_kw (ld_glob I hg hm ?_ hdb)
  exact PySem.W.callWith_K0 I.kIn hk (run_G (us := []) F hr hb (hx σ) I .nil h)
/-- o.m(..), by one of several classes; an instance that is frozen, too -/
def InsAt (H : Hp) (a C dx : Addr) (fs : List (Str × V)) : Prop := H a = some (.ins C dx fs) ∨ ∃ ob, H a = some (.frz ob (.ins C dx fs))
theorem insAt_get {P : Program} {w : World} {H : Hp} {h : Heap} {a dx : Addr} {fs : List (Str × V)} (hok : HOk P w H h) (e : InsAt H a C dx fs) : ∃ mA, ObjM h a dx C mA ∧ (∀ f, RelO (fs.lookup f) (mA f)) ∧ PySem.Within mA (fs.map (·.1)) := by
  have z : ObjOk P w H h a (.ins C dx fs) := by
    rcases e with e | ⟨ob, e⟩
    · exact hok a _ e
    · exact (show ObjOk P w H h a (.frz ob (.ins C dx fs)) from hok a _ e).2
  obtain ⟨d, z, ne, ob, mA, n, r, q⟩ := z
  exact ⟨mA, ⟨ob, n, ne⟩, r, q⟩
structure MTab (X : Cx) (CX : CXT) (m : Str) (k : Nat) (E : L2.St → XK) (C f : Addr) (sp : Sp) : Prop where
  c : Cls X.K C
  hm : Meth X.K C m f
  go : ∃ (k' : Nat) (fd : FuncData) (ps : List Str), k' ≤ k ∧ FnG X.prog X.w X.K X.mg X.base CX k' f fd ps sp ∧ Binds X.K fd ps []
def tMethG (tab : List (Addr × Sp)) (m : Str) (E : L2.St → XK) (ta : TE) (t : TA) : TE := fun σ H Q => ta σ H fun x H1 => ∃ a C dx fs sp, x = .ref a ∧ InsAt H1 a C dx fs ∧ fs.lookup m = none ∧ (C, sp) ∈ tab ∧ t σ H1 fun vs H2 => sp (x :: vs) H2 Q (E σ)
theorem getmethG {pins : List (Addr × Obj)} {σ : L2.St} {H : Hp} {s : Shared} {a dx g : Addr} {fs : List (Str × V)} {A : Around} {E : Value → Shared → Prop} {pl : Sem Bool} {Q : Value × List Value → Shared → Prop} (I : Inv X pins σ H s) (e : InsAt H a C dx fs) (c : Cls X.K C) (k : Meth X.K C m g)
    (l : fs.lookup m = none) (h : Q (.ref g, [.ref a]) s) : wpAny (model X.prog X.w) A (getMethod (.ref a) m pl) Q E s := by
  obtain ⟨mA, O, r, _⟩ := insAt_get I.hok e
  exact get_meth I.kIn O (c.get m) k.at_ k.fn (RelO.none_of (by rw [← l]; exact r m)) h
theorem pe_methG {tab : List (Addr × Sp)} {pl : Sem Bool} (he : PE X o ta) (ht0 : ∀ C sp, (C, sp) ∈ tab → ∃ f, MTab X CX m k E C f sp) (hr : RoomG k X.A) (hx : ∀ σ, PassesAt CX X σ (E σ)) (ha : PA X (e :: es) t)
    (hst : starEach (e :: es) X.env = (false, eval e X.env) :: starEach es X.env := by rfl) (hpl : (backTo pos (starEach es X.env)).any (·.1) = false := by rfl)
    (ht : eval (.Call (.Attribute o m apos) (e :: es) [] pos) X.env = (do
      let ov ← eval o X.env
      standAt apos.atName
      let (f, first) ← holding [ov] (getMethod ov m pl)
      callWith pos f first (backTo pos (starEach (e :: es) X.env)) (backToKw pos (keywordEach [] X.env))) := by rfl) : PE X (.Call (.Attribute o m apos) (e :: es) [] pos) (tMethG tab m E ta t) := by
  constructor
  intro pins s σ H Q I h
  refine PySem.W.methodCall_KW (pl := pl) (thn (he.run pins s σ H _ I h) fun u s1 ⟨x, H1, I1, rx, a, C, dx, fs, sp, ex, ea, l, hmem, q⟩ => ?_) ht
  subst ex
  obtain rfl : u = Value.ref a := rx
  obtain ⟨f, M⟩ := ht0 C sp hmem
  obtain ⟨k', fd, ps, hk, F, hb⟩ := M.go
  refine getmethG I1 ea M.c M.hm l ?_
  refine PySem.W.callWith_K (h₀ := X.base) (first := [.ref a]) I1.ok.mod.kin M.hm.kp (thn (ha.run pos pins s1 σ H1 _ I1 q) fun us s2 ⟨vs, H2, I2, r, q2⟩ => ⟨I2.kIn, ?_⟩) hst hpl
  exact run_G (us := .ref a :: us) (vs := .ref a :: vs) F (hr.mono hk) hb (hx σ) I2 (.cons rfl r) q2
theorem pe_methG0 {tab : List (Addr × Sp)} {pl : Sem Bool} (he : PE X o ta) (ht0 : ∀ C sp, (C, sp) ∈ tab → ∃ f, MTab X CX m k E C f sp) (hr : RoomG k X.A) (hx : ∀ σ, PassesAt CX X σ (E σ))
    (ht : eval (.Call (.Attribute o m apos) [] [] pos) X.env = (do
      let ov ← eval o X.env
      standAt apos.atName
      let (f, first) ← holding [ov] (getMethod ov m pl)
      callWith pos f first (backTo pos (starEach [] X.env)) (backToKw pos (keywordEach [] X.env))) := by rfl) : PE X (.Call (.Attribute o m apos) [] [] pos) (tMethG tab m E ta tNil) := by
  constructor
  intro pins s σ H Q I h
  refine PySem.W.methodCall_KW (pl := pl) (thn (he.run pins s σ H _ I h) fun u s1 ⟨x, H1, I1, rx, a, C, dx, fs, sp, ex, ea, l, hmem, q⟩ => ?_) ht
  subst ex
  obtain rfl : u = Value.ref a := rx
  obtain ⟨f, M⟩ := ht0 C sp hmem
  obtain ⟨k', fd, ps, hk, F, hb⟩ := M.go
  refine getmethG I1 ea M.c M.hm l ?_
  exact PySem.W.callWith_K0 (first := [.ref a]) I1.kIn M.hm.kp (run_G (us := [.ref a]) (vs := [.ref a]) F (hr.mono hk) hb (hx σ) I1 (.cons rfl .nil) q)
/-- e.f of an instance, frozen or not -/
def tFldG (K : PySem.W.Frag) (cs : List Addr) (ta : TE) (f : Str) : TE := fun σ H Q => ta σ H fun x H1 => ∃ a C dx fs v, x = .ref a ∧ InsAt H1 a C dx fs ∧ C ∈ cs ∧ fs.lookup f = some v ∧ Q v H1
theorem pe_fldG {cs : List Addr} {f : Str} (he : PE X e ta) (hc : ∀ C ∈ cs, Cls X.K C ∧ NoAttr X.K C f) (hb : attributeBase e f X.env (eval e X.env) = eval e X.env := by rfl) : PE X (.Attribute e f pos) (tFldG X.K cs ta f) := by
  constructor
  intro pins s σ H Q I h
  refine attr_of hb (thn (he.run pins s σ H _ I h) fun u s1 ⟨x, H1, I1, rx, a, C, dx, fs, v, ex, ea, hm, l, q⟩ => ?_)
  subst ex
  obtain rfl : u = Value.ref a := rx
  obtain ⟨c, n⟩ := hc C hm
  obtain ⟨mA, O, r, _⟩ := insAt_get I1.hok ea
  obtain ⟨u2, hu, ru⟩ := RelO.some_of (v := v) (o := mA f) (by rw [← l]; exact r f)
  exact get_map I1.kIn O (c.get f) c.hd n hu (handed_of ru) ⟨v, H1, I1.tok _, ru, q⟩
/-! C(..) -/
theorem run_mkG {pins : List (Addr × Obj)} {σ : L2.St} {H : Hp} {s : Shared} {Q : VK} {us : List Value} {vs : List V} (M : Mk X.K C f) (F : FnG X.prog X.w X.K X.mg X.base CX k f fd ps sp) (hr : RoomG (k + 1) X.A) (hb : Binds X.K fd ps []) (hx : PassesAt CX X σ (E σ)) (I : Inv X pins σ H s)
    (r : Vals vs us) (h : ∀ x dx, H x = none → H dx = none → dx ≠ x → sp (.ref x :: vs) (upd (upd H dx (.own x)) x (.ins C dx [])) (fun v H2 => v = .non ∧ Q (.ref x) H2) (E σ)) : wpAny (model X.prog X.w) X.A (call (.ref C) us) (EP X pins σ Q) X.xe s := by
  let n := s.heap.objs.size
  have want := h (n + 1) n (I.hok.fresh (Nat.le_succ _)) (I.hok.fresh (Nat.le_refl _)) (Nat.ne_of_lt (Nat.lt_succ_self _))
  have I2 := Inv.made (C := C) I
  have r2 : Vals (V.ref (n + 1) :: vs) (Value.ref (n + 1) :: us) := .cons rfl r
  have b := hb _ (Value.ref (n + 1) :: us) I2.kIn (by rw [List.append_nil, ← r2.length]; exact F.len _ _ _ _ want)
  rw [List.append_nil] at b
  refine wpAny_call (make_map (f := f) I.kIn M.makes M.init (beq_iff_eq.mp M.fn) (codeAny_mono (F.go _ X.stack _ _ ⟨Value.ref (n + 1) :: us, []⟩ _ _ _ (E σ) (hr.make C us) (I2.env0.make C us []) b r2 want) fun res s' hq => ?_))
  match res, hq with
  | .error e, hq => exact hx pins _ _ e s' I2 hq
  | .ok (.ret u), hq =>
    obtain ⟨v, H', I3, rv, ev, q3⟩ := I2.after hq
    subst ev
    exact ⟨rv, ⟨V.ref (n + 1), H', I3, rfl, q3⟩⟩
  | .ok .next, hq => exact False.elim hq
  | .ok .brk, hq => exact False.elim hq
  | .ok .cont, hq => exact False.elim hq
def tMakeG (C : Addr) (sp : Sp) (E : L2.St → XK) (t : TA) : TE := fun σ H Q => t σ H fun vs H1 => ∀ x dx, H1 x = none → H1 dx = none → dx ≠ x → sp (.ref x :: vs) (upd (upd H1 dx (.own x)) x (.ins C dx [])) (fun v H2 => v = .non ∧ Q (.ref x) H2) (E σ)
theorem pe_makeG (M : Mk X.K C f) (F : FnG X.prog X.w X.K X.mg X.base CX k f fd ps sp) (hr : RoomG (k + 1) X.A) (hg : Gl X x) (hm : X.mg x = some (.ref C)) (hb : Binds X.K fd ps []) (hx : ∀ σ, PassesAt CX X σ (E σ)) (ha : PA X (e :: es) t)
    (hdb : (x == ("__debug__" : Str)) = false := by decide) (he : starEach (e :: es) X.env = (false, eval e X.env) :: starEach es X.env := by rfl) (hpl : (backTo pos (starEach es X.env)).any (·.1) = false := by rfl) : PE X (.Call (.Name x p) (e :: es) [] pos) (tMakeG C sp E t) := by
  constructor
  intro pins s σ H Q I h
  refine wpAny_Call_Name_kw (ld_glob I hg hm ?_ hdb)
  exact PySem.W.callWith_K (h₀ := X.base) I.ok.mod.kin M.kp (thn (ha.run pos pins s σ H _ I h) fun us s1 ⟨vs, H1, I1, r, q⟩ => ⟨I1.kIn, run_mkG M F hr hb (hx σ) I1 r q⟩) he hpl
theorem pe_makeG0 (M : Mk X.K C f) (F : FnG X.prog X.w X.K X.mg X.base CX k f fd ps sp) (hr : RoomG (k + 1) X.A) (hg : Gl X x) (hm : X.mg x = some (.ref C)) (hb : Binds X.K fd ps []) (hx : ∀ σ, PassesAt CX X σ (E σ))
    (hdb : (x == ("__debug__" : Str)) = false := by decide) : PE X (.Call (.Name x p) [] [] pos) (tMakeG C sp E tNil) := by
  constructor
  intro pins s σ H Q I h
  refine wpAny_Call_Name_kw (ld_glob I hg hm ?_ hdb)
  exact PySem.W.callWith_K0 I.kIn M.kp (run_mkG (us := []) M F hr hb (hx σ) I .nil h)
end
/-! ### a thing is frozen: it stays as it is from here on -/
def canFrz : HO → Bool
  | .lst _ | .dK _ | .ins _ _ _ => true
  | _ => false
section
variable {X : Cx} {pins : List (Addr × Obj)} {σ : L2.St} {H : Hp} {s : Shared} {a : Addr} {u : HO}
theorem Inv.freeze (I : Inv X pins σ H s) (e : H a = some u) (hu : canFrz u = true) : ∃ o, Inv X pins σ (upd H a (.frz o u)) s := by
  obtain ⟨o, ho⟩ := objOk_get (I.hok a u e)
  have ne : ∀ b z, H b = some z → canFrz z = false → b ≠ a := fun b z hb hz q => by
    subst q; rw [e] at hb; cases hb; rw [hu] at hz; cases hz
  have own : ∀ b c, H b = some (.own c) → upd H a (.frz o u) b = some (.own c) := fun b c hb => by rw [upd_ne (ne b _ hb rfl)]; exact hb
  have tup : ∀ b c, H b = some (.tup c) → upd H a (.frz o u) b = some (.tup c) := fun b c hb => by rw [upd_ne (ne b _ hb rfl)]; exact hb
  have off : ∀ b, H b = none → upd H a (.frz o u) b = none := fun b hb => by rw [upd_ne (fun q => by subst q; rw [e] at hb; cases hb)]; exact hb
  refine ⟨o, I.ok, I.os, I.bare, ⟨I.base.keep, I.base.slot, fun b ob q n hx => off b (I.base.free b ob q n hx), I.base.there, fun b xs q => tup b xs (I.base.tups b xs q), fun b ob z q => ?_, fun b ps q => ?_⟩, I.loc, I.cell, off _ I.free, fun x c hx => off _ (I.freeC x c hx), fun p hp => ?_, fun b z hz => ?_, I.len⟩
  · have h1 := I.base.frzs b ob z q
    rw [upd_ne (ne b _ h1 rfl)]; exact h1
  · obtain ⟨more, h1⟩ := I.base.tbls b ps q
    exact ⟨more, by rw [upd_ne (ne b _ h1 rfl)]; exact h1⟩
  · obtain ⟨h1, h2, h3⟩ := I.pin p hp
    exact ⟨h1, off _ h2, h3⟩
  · by_cases hb : b = a
    · subst hb
      rw [upd_same] at hz
      cases hz
      refine ⟨ho, (I.hok b u e).stay (fun _ _ _ h => h) (fun c hc => own c b hc) tup⟩
    · rw [upd_ne hb] at hz
      exact (I.hok b z hz).stay (fun _ _ _ h => h) (fun c hc => own c b hc) tup
/-- an expression whose value is frozen behind it -/
theorem pe_frz {x : Expr} {t : TE} (h : PE X x t) : PE X x (fun σ H Q => t σ H fun v H1 => Q v H1 ∨ ∃ a u, v = .ref a ∧ H1 a = some u ∧ canFrz u = true ∧ ∀ o, Q v (upd H1 a (.frz o u))) := by
  constructor
  intro pins s σ H Q I q
  refine thn (h.run pins s σ H _ I q) fun u s1 ⟨v, H1, I1, r, z⟩ => ?_
  rcases z with z | ⟨a, w, rfl, e, hu, z⟩
  · exact ⟨v, H1, I1, r, z⟩
  · obtain ⟨o, I2⟩ := Inv.freeze I1 e hu
    exact ⟨_, _, I2, r, z o⟩
end
/-! ### the end of a law -/
section
theorem lawG {P : Program} {w : World} {K : PySem.W.Frag} {mg mb : Str → Option Value} {CX : CXT} {k : Nat} {fa a : Addr} {fd : FuncData} {x : Str} {sp : Sp} {s : Shared} {vs : List Value} {ns : List Int} (KX : K.In s.heap) (hns : s.heap.Ns mainGlobals mg) (hb : s.heap.Ns builtinsNs mb)
    (hbb : ∀ x : Str, x ≠ "__name__" → mb x = bootBuiltins x) (hlim : s.heap.NoLimit) (hg : s.gens = #[]) (ha : s.heap.get? a = some { cls := .type "list", data := .seq vs.toArray }) (hi : IntsAre vs ns) (hl : ns.length ≤ sizeLine) (hr : RoomG k callerA)
    (F : ∀ base : Heap, K.In base → base.Ns mainGlobals mg → FnG P w K mg base CX k fa fd [x] sp) (hbind : ∀ (s : Shared) (u : Value), BindsTo s fd ⟨[u], []⟩ [(x, u)]) (hsp : ∀ H : Hp, CL K H a (ns.map V.int) → sp [.ref a] H (fun v _ => v = .bl true) fun _ _ _ => False)
    (hCX : ∀ H e s', CX [] H s (fun _ _ _ => False) e s' → False) : codeAny (model P w) callerA (.call (.ref fa) ⟨[.ref a], []⟩) (fun r s' => r = .ok (.ret (.bool true)) ∧ OldK s.heap s'.heap ∧ s'.os = s.os ∧ AllBare s'.gens) s := by
  have rv := vals_ints hi
  have go : ∀ H : Hp, Only H → CL K H a (ns.map V.int) → HOk P w H s.heap → (∀ b, H b ≠ none → b = a) → (H a ≠ none → K.lookup a = none) → codeAny (model P w) callerA (.call (.ref fa) ⟨[.ref a], []⟩) (fun r s' => r = .ok (.ret (.bool true)) ∧ OldK s.heap s'.heap ∧ s'.os = s.os ∧ AllBare s'.gens) s := by
    intro H hO hS hok hA hK
    have alone : ∀ {b : Addr} {u : HO}, H b = some u → b = a := fun {b u} q => hA b (by rw [q]; exact Option.some_ne_none u)
    have stays : ∀ {b : Addr} {o : Obj}, s.heap.get? b = some o → H b = none → (hidT s.heap H).get? b = some o := fun e n => hidT_get e n
    have dictOff : ∀ {b : Addr} {o : Obj} {es : Array DictEntry} {ep : Nat}, s.heap.get? b = some o → o.data = .dict es ep → H b = none := fun {b o es ep} e d => by
      cases q : H b with
      | none => rfl
      | some u =>
        obtain rfl := alone q
        rw [ha] at e
        cases e
        cases (show Data.seq vs.toArray _ = Data.dict es ep from d)
    have nsOf : ∀ {b : Addr} {m : Str → Option Value}, s.heap.Ns b m → (hidT s.heap H).Ns b m := fun {b m} ⟨o, es, ep, e, d, r⟩ => ⟨o, es, ep, stays e (dictOff e d), d, r⟩
    have hKb : K.In (hidT s.heap H) := fun b o e => by
      refine stays (KX b o e) ?_
      cases q : H b with
      | none => rfl
      | some u =>
        obtain rfl := alone q
        have n := hK (by rw [q]; exact Option.some_ne_none u)
        rw [n] at e
        cases e
    have hM : Mod K mg (hidT s.heap H) := ⟨hKb, nsOf hns, ⟨mb, nsOf hb, hbb⟩, let ⟨mc, h1, h2⟩ := hlim; ⟨mc, nsOf h1, h2⟩⟩
    have e0 : Env0 P w K mg (hidT s.heap H) callerA [] s H := ⟨rfl, hM, fun b o e => of_hidT e, Nat.le_of_eq (hidT_size _ _), trivial, fun b hb => absurd hb (by intro z; cases z), hok, .of_eq hg⟩
    refine codeAny_mono ((F _ hKb (nsOf hns)).go callerA [] s H ⟨[.ref a], []⟩ [.ref a] [.ref a] _ _ hr e0 (hbind s (.ref a)) (.cons rfl .nil) (hsp H hS)) fun r s' h => ?_
    match r, h with
    | .error e, h => exact (hCX H e s' h).elim
    | .ok .next, h => exact False.elim h
    | .ok .brk, h => exact False.elim h
    | .ok .cont, h => exact False.elim h
    | .ok (.ret u), h =>
      obtain ⟨v, H', os, bare, un, hok', r', q⟩ := h
      obtain rfl : v = .bl true := q
      obtain rfl : u = Value.bool true := r'
      refine ⟨rfl, OldK.of_keep fun b o e => ?_, os, bare⟩
      rcases hO b with z | ⟨ob, xs, z⟩
      · exact un.keep b o e z (fun z => by cases z) (fun z => by cases z)
      · have e1 := (hok b _ z).1
        have e2 := (hok' b _ (un.frzs b ob _ z)).1
        rw [e] at e1
        cases e1
        exact e2
  cases hk : K.lookup a with
  | some o =>
    have e := KX a o hk
    rw [ha] at e
    cases e
    exact go (fun _ => none) (fun _ => .inl rfl) (.inr ⟨vs.toArray, _, hk, by rw [List.size_toArray, hi.length]; exact hl, by simpa using rv⟩) (fun b u z => by cases z) (fun b z => absurd rfl z) fun z => absurd rfl z
  | none =>
    let ob : Obj := { cls := .type "list", data := .seq vs.toArray }
    let H : Hp := fun b => if b = a then some (.frz ob (.lst (ns.map V.int))) else none
    have hsame : H a = some (.frz ob (.lst (ns.map V.int))) := if_pos rfl
    have hoff : ∀ b, b ≠ a → H b = none := fun b q => if_neg q
    refine go H (fun b => ?_) (.inl ⟨ob, hsame⟩) (fun b u z => ?_) (fun b z => ?_) fun _ => hk
    · by_cases q : b = a
      · exact .inr ⟨ob, _, by rw [q]; exact hsame⟩
      · exact .inl (hoff b q)
    · by_cases q : b = a
      · subst q
        rw [hsame] at z
        cases z
        exact ⟨ha, by rw [List.length_map]; exact hl, vs, _, rv, ha⟩
      · rw [hoff b q] at z
        cases z
    · by_cases q : b = a
      · exact q
      · exact absurd (hoff b q) z
theorem walkG {l : PySem.W.OpenLaw} {n k : Nat} {q : Program} {loose : List Str} {XP : (Str → Option Value) → Heap → Prop} {YP : World → Heap → Prop} {d : DefRec} {K : Params → PySem.W.Frag} {CX : World → CXT} {sp : World → Sp} {x : Str} (hn : l.most = some n) (hn2 : n ≤ sizeLine)
    (hdf : d.params.defaults = []) (hr : RoomG k callerA) (hY : ∀ (w : World) (h : Heap), YP w h → (K w.params).In h)
    (F : ∀ (w : World) (mg : Str → Option Value) (fa : Addr) (h : Heap), (K w.params).In h → h.Ns mainGlobals mg → mg d.name = some (.ref fa) → ∃ fd : FuncData, (∀ (s : Shared) (u : Value), BindsTo s fd ⟨[u], []⟩ [(x, u)]) ∧
        ∀ base : Heap, (K w.params).In base → base.Ns mainGlobals mg → FnG l.prog w (K w.params) mg base (CX w) k fa fd [x] (sp w))
    (hsp : ∀ (w : World) (H : Hp) (a : Addr) (ns : List Int), ns.length ≤ n → CL (K w.params) H a (ns.map V.int) → sp w [.ref a] H (fun v _ => v = .bl true) fun _ _ _ => False)
    (hCX : ∀ (w : World) (H : Hp) (s : Shared) (e : Value) (s' : Shared), CX w [] H s (fun _ _ _ => False) e s' → False) : PySem.W.WalkO q loose XP YP l.row.toRowW d [] (fun f vs => PySem.call f vs) := by
  refine Att.attach_call hn hdf fun w s₀ s₁ mg mb fa o pm cd doc a vs ns G Y ho hd hcd hmg hobj hints hlen hg => ?_
  obtain ⟨fd, hb, hF⟩ := F w mg fa _ (hY w _ Y) G.T.g hmg
  exact lawG (hY w _ Y) G.T.g G.T.b G.T.builtins G.T.nolimit hg hobj hints (Nat.le_trans hlen hn2) hr hF hb (fun H hS => hsp w H a ns hlen hS) fun H e s' => hCX w H s₁ e s'
end
/-! ### range of any size -/
section
theorem turn_long {P : Program} {w : World} {K : PySem.W.Frag} {tg : Expr} (it : Addr) (lo : Int) (n : Nat) : Turn P w K tg (Itr lo n) [it] it (fun i h => IsLongIter h it (lo + (i : Nat) * 1) ((n : Int) - (i : Nat)) 1) := by
  have one : ∀ b ∈ [it], b = it := fun b hb => by simpa using hb
  refine ⟨by simp, fun i h st b hb => ?_, fun i h h' st k => k it (by simp) _ st, ?_, ?_, fun _ _ _ _ _ st h => wpAny_pyIter_longiter st h⟩
  · obtain rfl := one b hb
    refine ⟨_, st, fun v z => ?_⟩
    cases (show Data.fields _ = Data.cell v from z)
  · intro X hP hw hK hc i pins s σ H E I hf st hg
    subst hP hw hK
    obtain ⟨f0, f1, f2, f3, f4, f5⟩ := hf it (by simp)
    have hg' : i < n := hg
    refine wpAny_pyNext_long_item st (by omega) fun h' st' sb => ?_
    have I1 : Inv X pins σ H { s with heap := h', toks := s.toks + 1 } := I.turned (fun b o hb e => (sb.2 b hb).trans e) f0 f1 f3 f4 f5
    have e1 : lo + (i : Nat) * 1 + 1 = lo + ((i + 1 : Nat) : Int) * 1 := by omega
    have e2 : (n : Int) - (i : Nat) - 1 = (n : Int) - ((i + 1 : Nat) : Int) := by omega
    rw [e1, e2] at st'
    refine ⟨_, rfl, go_of (s := { s with heap := h', toks := s.toks + 1 }) (n := "longrange_iterator") st' rfl rfl (by decide) ⟨.int (lo + i), H, I1, ⟨s.toks, ?_⟩, ⟨rfl, rfl⟩, st', fun b hb => (hf b hb).1⟩⟩
    rw [Int.mul_one]
  · intro X hP hw hK hc i pins s σ H E I hf st hg
    subst hP hw hK
    obtain ⟨f0, f1, f2, f3, f4, f5⟩ := hf it (by simp)
    exact wpAny_pyNext_long_end (I.ok.hd hc) st (by have : n ≤ i := hg; omega) fun h' eb => ⟨rfl, I.turned (t' := s.toks) (fun b o hb e => eb b o hb e) f0 f1 f3 f4 f5⟩
variable {X : Cx} {tg : Expr}
theorem range_itA {pins : List (Addr × Obj)} {σ : L2.St} {H : Hp} {s : Shared} {R : It → Hp → Prop} {E : Value → Shared → Prop} {lo hi : Int} {t u v : Tok} {tk : Nat} (I : Inv X pins σ H s) (q : R (Itr lo (hi - lo).toNat) H) :
    wpAny (model X.prog X.w) X.A (pyIter (.ref s.heap.objs.size)) (PIE X pins σ tg R) E { s with heap := s.heap.push { cls := .type "range", data := .fields #[.int lo t, .int hi u, .int 1 v] }, toks := tk } := by
  let g := s.heap.push { cls := .type "range", data := .fields #[.int lo t, .int hi u, .int 1 v] }
  have I1 : Inv X pins σ H { s with heap := g, toks := tk } := I.kept fun b o e => Heap.get?_push_of_some _ e
  have e1 : lo + ((0 : Nat) : Int) * 1 = lo := by simp
  have e2 : (((hi - lo).toNat : Nat) : Int) - ((0 : Nat) : Int) = Builtin.Range.rangeSize lo hi 1 := by rw [rangeSize_one]; split <;> omega
  have fresh : ∀ b ∈ [g.objs.size], FpOk X pins H b := fun b hb => by
    obtain rfl : b = g.objs.size := by simpa using hb
    exact I1.fpOk (Nat.le_refl _) (I1.hok.fresh (Nat.le_refl _))
  cases hs : Builtin.Range.small lo hi 1 with
  | true =>
    refine wpAny_pyIter_range (IsRange.new ..) hs ⟨g.objs.size, [g.objs.size], _, _, H, rfl, I1.kept (t' := tk) fun b o e => Heap.get?_push_of_some _ e, turn_range _ lo (hi - lo).toNat, ?_, fresh, q⟩
    show IsRangeIter _ _ (lo + ((0 : Nat) : Int) * 1) ((((hi - lo).toNat : Nat) : Int) - ((0 : Nat) : Int)) 1
    rw [e1, e2]
    exact Heap.get?_push_size _ rfl
  | false =>
    refine wpAny_pyIter_longrange (IsRange.new ..) hs ⟨g.objs.size, [g.objs.size], _, _, H, rfl, I1.kept (t' := tk) fun b o e => Heap.get?_push_of_some _ e, turn_long _ lo (hi - lo).toNat, ?_, fresh, q⟩
    show IsLongIter _ _ (lo + ((0 : Nat) : Int) * 1) ((((hi - lo).toNat : Nat) : Int) - ((0 : Nat) : Int)) 1
    rw [e1, e2]
    exact Heap.get?_push_size _ rfl
def iRngA1 (ta : TA) : TI := fun σ H R => ta σ H fun vs H1 => ∃ j : Int, vs = [.int j] ∧ R (Itr 0 j.toNat) H1
def iRngA2 (ta : TA) : TI := fun σ H R => ta σ H fun vs H1 => ∃ i j : Int, vs = [.int i, .int j] ∧ R (Itr i (j - i).toNat) H1
theorem pi_rangeA1 {a : Expr} {ta : TA} {p pos : Pos} (hg : Gl X "range") (hm : X.mg "range" = none) (ha : PA X [a] ta) (hs : starEach [a] X.env = [(false, eval a X.env)] := by rfl) : PI X tg (.Call (.Name "range" p) [a] [] pos) (iRngA1 ta) := by
  constructor
  intro pins s σ H R I h
  refine Call_ (ld_blt I hg hm boot_range (PyProof.Rows.callWith_type1 (thn (ha.run pos pins s σ H _ I h) fun us s1 ⟨vs, H1, I1, r1, j, e, q⟩ => ?_) hs rfl))
  subst e
  cases r1 with
  | cons r rr =>
    cases rr
    obtain ⟨t, rfl⟩ := r
    exact call_range_1 (range_itA I1 (by simpa using q))
theorem pi_rangeA2 {a b : Expr} {ta : TA} {p pos : Pos} (hg : Gl X "range") (hm : X.mg "range" = none) (ha : PA X [a, b] ta) (hs : starEach [a, b] X.env = [(false, eval a X.env), (false, eval b X.env)] := by rfl) (hs2 : starEach [b] X.env = [(false, eval b X.env)] := by rfl) :
    PI X tg (.Call (.Name "range" p) [a, b] [] pos) (iRngA2 ta) := by
  constructor
  intro pins s σ H R I h
  refine Call_ (ld_blt I hg hm boot_range (PyProof.Rows.callWith_type1 (thn (ha.run pos pins s σ H _ I h) fun us s1 ⟨vs, H1, I1, r1, i, j, e, q⟩ => ?_) (by rw [hs, hs2]) (by rw [hs2]; rfl)))
  subst e
  cases r1 with
  | cons r rr =>
    cases rr with
    | cons r' rr =>
      cases rr
      obtain ⟨t, rfl⟩ := r
      obtain ⟨t', rfl⟩ := r'
      exact call_range_2 (range_itA I1 q)
end
end VD

/-! data by value: tuples are plain data, lists and instances stand in a store -/
namespace VD
open PySem PySem.Spec PyProof.Rows L2

inductive Dv where
  | non | bl (b : Bool) | int (i : Int) | str (x : Str) | ty (n : String) | ref (a : Addr) | tup (ds : List Dv) | rol (ds : List Dv)
  /-- a dict by value, an instance by value -/
  | rod (ks : List Key) (ds : List Dv) | obj (C : Addr) (ns : List Str) (ds : List Dv)
instance : Inhabited Dv := ⟨.non⟩

/-- what stands at a stored address -/
inductive MO where
  | lst (ds : List Dv) | dK (kvs : List (Key × Dv)) | ins (C dx : Addr) (fs : List (Str × Dv)) | xd (fs : List (Str × Dv))
abbrev Sto := Addr → Option MO
abbrev Rho := List (Option Dv)
def put (S : Sto) (a : Addr) (m : MO) : Sto := fun b => if b = a then some m else S b
theorem put_same {S : Sto} {a : Addr} {m : MO} : put S a m a = some m := by unfold put; rw [if_pos rfl]
theorem put_ne {S : Sto} {a b : Addr} {m : MO} (h : b ≠ a) : put S a m b = S b := by unfold put; rw [if_neg h]
theorem put_put {S : Sto} {a : Addr} {m n : MO} : put (put S a m) a n = put S a n := by
  funext b; unfold put; split <;> rfl
theorem put_comm {S : Sto} {a b : Addr} {m n : MO} (h : a ≠ b) : put (put S a m) b n = put (put S b n) a m := by
  funext c; unfold put; by_cases h1 : c = b <;> by_cases h2 : c = a <;> simp [h1, h2] <;> simp_all
theorem put_self {S : Sto} {a : Addr} {m : MO} (h : S a = some m) : put S a m = S := by
  funext b; unfold put; split
  · rename_i e; rw [e, h]
  · rfl
theorem ne_of {S : Sto} {a b : Addr} {m : MO} (h : S a = some m) (h' : S b = none) : a ≠ b := by
  intro e; rw [e, h'] at h; cases h
theorem ne_of' {S : Sto} {a b : Addr} {m : MO} (h : S a = some m) (h' : S b = none) : b ≠ a := (ne_of h h').symm
/-- less is known -/
def Sub (S T : Sto) : Prop := ∀ a m, S a = some m → T a = some m
theorem Sub.refl (S : Sto) : Sub S S := fun _ _ h => h
theorem Sub.trans {S T U : Sto} (h : Sub S T) (g : Sub T U) : Sub S U := fun a m e => g a m (h a m e)
theorem Sub.new {S : Sto} {a : Addr} {m : MO} (h : S a = none) : Sub S (put S a m) := fun b n e => by
  rw [put_ne (ne_of e h)]; exact e
theorem Sub.put {S T : Sto} {a : Addr} {m : MO} (h : Sub S T) : Sub (put S a m) (put T a m) := fun b n e => by
  unfold VD.put at e ⊢
  split
  · rename_i q; rw [if_pos q] at e; exact e
  · rename_i q; rw [if_neg q] at e; exact h _ _ e

/-- a store without the object at p -/
def rm (S : Sto) (p : Addr) : Sto := fun b => if b = p then none else S b
theorem rm_same {S : Sto} {p : Addr} : rm S p p = none := if_pos rfl
theorem rm_ne {S : Sto} {p b : Addr} (h : b ≠ p) : rm S p b = S b := if_neg h
theorem rm_sub (S : Sto) (p : Addr) : Sub (rm S p) S := fun a m e => by
  unfold rm at e
  split at e
  · cases e
  · exact e
theorem rm_put {S : Sto} {p : Addr} {m : MO} (h : S p = none) : rm (put S p m) p = S := by
  funext b
  unfold rm put
  split
  · rename_i e; rw [e, h]
  · rfl
section
variable (K : PySem.W.Frag) (H : Hp)
mutual
inductive Rep : V → Dv → Prop
  | non : Rep .non .non
  | bl (b : Bool) : Rep (.bl b) (.bl b)
  | int (i : Int) : Rep (.int i) (.int i)
  | str (x : Str) : Rep (.str x) (.str x)
  | ty (n : String) : Rep (.ty n) (.ty n)
  | ref (a : Addr) : Rep (.ref a) (.ref a)
  | tup {a : Addr} {xs : List V} {ds : List Dv} : SqT K H a xs → RepL xs ds → Rep (.ref a) (.tup ds)
  | rol {a : Addr} {xs : List V} {ds : List Dv} : CL K H a xs → RepL xs ds → Rep (.ref a) (.rol ds)
  | rod {a : Addr} {o : Obj} {ks : List Key} {vs : List V} {ds : List Dv} : H a = some (.frz o (.dK (ks.zip vs))) → ks.length = vs.length → RepL vs ds → Rep (.ref a) (.rod ks ds)
  | obj {a C dx : Addr} {o : Obj} {ns : List Str} {vs : List V} {ds : List Dv} : H a = some (.frz o (.ins C dx (ns.zip vs))) → ns.length = vs.length → RepL vs ds → Rep (.ref a) (.obj C ns ds)
inductive RepL : List V → List Dv → Prop
  | nil : RepL [] []
  | cons {v : V} {vs : List V} {d : Dv} {ds : List Dv} : Rep v d → RepL vs ds → RepL (v :: vs) (d :: ds)
end
end
section
variable {K : PySem.W.Frag} {H H' H1 H2 : Hp}
/-- tuples stay -/
structure Tk (K : PySem.W.Frag) (H H' : Hp) : Prop where
  t : ∀ a xs, SqT K H a xs → SqT K H' a xs
  c : ∀ a xs, CL K H a xs → CL K H' a xs
  f : ∀ a o u, H a = some (.frz o u) → H' a = some (.frz o u)
theorem Tk.refl (H : Hp) : Tk K H H := ⟨fun _ _ h => h, fun _ _ h => h, fun _ _ _ h => h⟩
theorem Tk.trans (h : Tk K H H1) (g : Tk K H1 H2) : Tk K H H2 := ⟨fun a xs e => g.t a xs (h.t a xs e), fun a xs e => g.c a xs (h.c a xs e), fun a o u e => g.f a o u (h.f a o u e)⟩
theorem Tk.of (h : ∀ a o, H a = some o → (∀ xs, o ≠ .tup xs) ∧ (∀ ob u, o ≠ .frz ob u) ∨ H' a = some o) : Tk K H H' := ⟨fun a xs e => by
  rcases e with (e | ⟨o, e⟩) | e
  · rcases h _ _ e with ⟨q, _⟩ | q
    · exact absurd rfl (q xs)
    · exact .inl (.inl q)
  · rcases h _ _ e with ⟨_, q⟩ | q
    · exact absurd rfl (q _ _)
    · exact .inl (.inr ⟨o, q⟩)
  · exact .inr e, fun a xs e => by
  rcases e with ⟨o, e⟩ | e
  · rcases h _ _ e with ⟨_, q⟩ | q
    · exact absurd rfl (q _ _)
    · exact .inl ⟨o, q⟩
  · exact .inr e, fun a ob u e => by
  rcases h _ _ e with ⟨_, q⟩ | q
  · exact absurd rfl (q _ _)
  · exact q⟩
theorem Tk.new {p : Addr} {o : HO} (h : H p = none) : Tk K H (upd H p o) := Tk.of fun a u e => .inr (by rw [upd_ne (ne_of_none e h)]; exact e)
theorem Tk.same (h : Same H H') : Tk K H H' := Tk.of fun a u e => .inr (h a u e)
theorem Tk.write {p : Addr} {o u : HO} (h : H p = some u) (q : (∀ xs, u ≠ .tup xs) ∧ (∀ ob z, u ≠ .frz ob z)) : Tk K H (upd H p o) := Tk.of fun a x e => by
  by_cases z : a = p
  · subst z; rw [h] at e; cases e; exact .inl q
  · exact .inr (by rw [upd_ne z]; exact e)
mutual
theorem Rep.mono (t : Tk K H H') : ∀ {v : V} {d : Dv}, Rep K H v d → Rep K H' v d
  | _, _, .non => .non
  | _, _, .bl b => .bl b
  | _, _, .int b => .int b
  | _, _, .str b => .str b
  | _, _, .ty b => .ty b
  | _, _, .ref b => .ref b
  | _, _, .tup h l => .tup (t.t _ _ h) (RepL.mono t l)
  | _, _, .rol h l => .rol (t.c _ _ h) (RepL.mono t l)
  | _, _, .rod h e l => .rod (t.f _ _ _ h) e (RepL.mono t l)
  | _, _, .obj h e l => .obj (t.f _ _ _ h) e (RepL.mono t l)
theorem RepL.mono (t : Tk K H H') : ∀ {vs : List V} {ds : List Dv}, RepL K H vs ds → RepL K H' vs ds
  | _, _, .nil => .nil
  | _, _, .cons h l => .cons (Rep.mono t h) (RepL.mono t l)
end
theorem RepL.length : ∀ {vs : List V} {ds : List Dv}, RepL K H vs ds → vs.length = ds.length
  | _, _, .nil => rfl
  | _, _, .cons _ l => congrArg (· + 1) (RepL.length l)
theorem RepL.get : ∀ {vs : List V} {ds : List Dv} {i : Nat} {d : Dv}, RepL K H vs ds → ds[i]? = some d → ∃ v, vs[i]? = some v ∧ Rep K H v d
  | _, _, _, _, .nil, e => by simp at e
  | _, _, 0, _, .cons h _, e => by simp at e; subst e; exact ⟨_, rfl, h⟩
  | _, _, i + 1, d, .cons _ l, e => by
    obtain ⟨v, h1, h2⟩ := RepL.get (i := i) (d := d) l (by simpa using e)
    exact ⟨v, by simpa using h1, h2⟩
theorem RepL.get' : ∀ {vs : List V} {ds : List Dv} {i : Nat} {v : V}, RepL K H vs ds → vs[i]? = some v → ∃ d, ds[i]? = some d ∧ Rep K H v d
  | _, _, _, _, .nil, e => by simp at e
  | _, _, 0, _, .cons h _, e => by simp at e; subst e; exact ⟨_, rfl, h⟩
  | _, _, i + 1, d, .cons _ l, e => by
    obtain ⟨v, h1, h2⟩ := RepL.get' (i := i) (v := d) l (by simpa using e)
    exact ⟨v, by simpa using h1, h2⟩
theorem RepL.append : ∀ {vs : List V} {ds : List Dv} {us : List V} {es : List Dv}, RepL K H vs ds → RepL K H us es → RepL K H (vs ++ us) (ds ++ es)
  | _, _, _, _, .nil, q => q
  | _, _, _, _, .cons h l, q => .cons h (RepL.append l q)
theorem RepL.take : ∀ {vs : List V} {ds : List Dv} (n : Nat), RepL K H vs ds → RepL K H (vs.take n) (ds.take n)
  | _, _, 0, _ => .nil
  | _, _, _ + 1, .nil => .nil
  | _, _, n + 1, .cons h l => .cons h (RepL.take n l)
theorem RepL.drop : ∀ {vs : List V} {ds : List Dv} (n : Nat), RepL K H vs ds → RepL K H (vs.drop n) (ds.drop n)
  | _, _, 0, q => q
  | _, _, _ + 1, .nil => .nil
  | _, _, n + 1, .cons _ l => RepL.drop n l
theorem RepL.set : ∀ {vs : List V} {ds : List Dv} {v : V} {d : Dv} (n : Nat), RepL K H vs ds → Rep K H v d → RepL K H (vs.set n v) (ds.set n d)
  | _, _, _, _, _, .nil, _ => .nil
  | _, _, _, _, 0, .cons _ l, q => .cons q l
  | _, _, _, _, n + 1, .cons h l, q => .cons h (RepL.set n l q)
theorem RepL.rep {vs : List V} {ds : List Dv} (h : RepL K H vs ds) : ∀ k : Nat, RepL K H (List.replicate k vs).flatten (List.replicate k ds).flatten
  | 0 => .nil
  | k + 1 => by
    rw [List.replicate_succ, List.replicate_succ, List.flatten_cons, List.flatten_cons]
    exact h.append (RepL.rep h k)
theorem RepL.nil_iff {vs : List V} {ds : List Dv} (h : RepL K H vs ds) : vs = [] ↔ ds = [] := by
  cases h <;> simp
theorem RepL.erase : ∀ {vs : List V} {ds : List Dv} (n : Nat), RepL K H vs ds → RepL K H (vs.eraseIdx n) (ds.eraseIdx n)
  | _, _, _, .nil => .nil
  | _, _, 0, .cons _ l => l
  | _, _, n + 1, .cons h l => .cons h (RepL.erase n l)

/-! inversions -/
theorem Rep.i_non {v : V} (h : Rep K H v .non) : v = .non := by cases h; rfl
theorem Rep.i_bl {v : V} {b : Bool} (h : Rep K H v (.bl b)) : v = .bl b := by cases h; rfl
theorem Rep.i_int {v : V} {b : Int} (h : Rep K H v (.int b)) : v = .int b := by cases h; rfl
theorem Rep.i_str {v : V} {b : Str} (h : Rep K H v (.str b)) : v = .str b := by cases h; rfl
theorem Rep.i_ty {v : V} {b : String} (h : Rep K H v (.ty b)) : v = .ty b := by cases h; rfl
theorem Rep.i_ref {v : V} {b : Addr} (h : Rep K H v (.ref b)) : v = .ref b := by cases h; rfl
theorem Rep.i_tup {v : V} {ds : List Dv} (h : Rep K H v (.tup ds)) : ∃ a xs, v = .ref a ∧ SqT K H a xs ∧ RepL K H xs ds := by
  cases h with | tup h l => exact ⟨_, _, rfl, h, l⟩
theorem Rep.i_rol {v : V} {ds : List Dv} (h : Rep K H v (.rol ds)) : ∃ a xs, v = .ref a ∧ CL K H a xs ∧ RepL K H xs ds := by
  cases h with | rol h l => exact ⟨_, _, rfl, h, l⟩
theorem Rep.i_rod {v : V} {ks : List Key} {ds : List Dv} (h : Rep K H v (.rod ks ds)) : ∃ a o vs, v = .ref a ∧ H a = some (.frz o (.dK (ks.zip vs))) ∧ ks.length = vs.length ∧ RepL K H vs ds := by
  cases h with | rod h e l => exact ⟨_, _, _, rfl, h, e, l⟩
theorem Rep.i_obj {v : V} {C : Addr} {ns : List Str} {ds : List Dv} (h : Rep K H v (.obj C ns ds)) : ∃ a dx o vs, v = .ref a ∧ H a = some (.frz o (.ins C dx (ns.zip vs))) ∧ ns.length = vs.length ∧ RepL K H vs ds := by
  cases h with | obj h e l => exact ⟨_, _, _, _, rfl, h, e, l⟩
theorem RepL.ints : ∀ {vs : List V} {ns : List Int}, RepL K H vs (ns.map Dv.int) → vs = ns.map V.int
  | _, [], .nil => rfl
  | _, _ :: _, .cons h l => by rw [h.i_int, RepL.ints l]; rfl
theorem RepL.bls : ∀ {vs : List V} {ns : List Bool}, RepL K H vs (ns.map Dv.bl) → vs = ns.map V.bl
  | _, [], .nil => rfl
  | _, _ :: _, .cons h l => by rw [h.i_bl, RepL.bls l]; rfl
theorem RepL.strs : ∀ {vs : List V} {ns : List Str}, RepL K H vs (ns.map Dv.str) → vs = ns.map V.str
  | _, [], .nil => rfl
  | _, _ :: _, .cons h l => by rw [h.i_str, RepL.strs l]; rfl
theorem RepL.of_ints : ∀ (ns : List Int), RepL K H (ns.map V.int) (ns.map Dv.int)
  | [] => .nil
  | i :: r => .cons (.int i) (RepL.of_ints r)
theorem RepL.of_bls : ∀ (ns : List Bool), RepL K H (ns.map V.bl) (ns.map Dv.bl)
  | [] => .nil
  | i :: r => .cons (.bl i) (RepL.of_bls r)
theorem RepL.of_strs : ∀ (ns : List Str), RepL K H (ns.map V.str) (ns.map Dv.str)
  | [] => .nil
  | i :: r => .cons (.str i) (RepL.of_strs r)
theorem RepL.cons_i {vs : List V} {d : Dv} {ds : List Dv} (h : RepL K H vs (d :: ds)) : ∃ v r, vs = v :: r ∧ Rep K H v d ∧ RepL K H r ds := by
  cases h with | cons h l => exact ⟨_, _, rfl, h, l⟩
theorem RepL.nil_i {vs : List V} (h : RepL K H vs []) : vs = [] := by cases h; rfl

/-! the store -/
def RepF (K : PySem.W.Frag) (H : Hp) : List (Str × V) → List (Str × Dv) → Prop := Paired fun p q => p.1 = q.1 ∧ Rep K H p.2 q.2
def RepK (K : PySem.W.Frag) (H : Hp) : List (Key × V) → List (Key × Dv) → Prop := Paired fun p q => p.1 = q.1 ∧ Rep K H p.2 q.2
theorem RepF.mono (t : Tk K H H') {gs : List (Str × V)} {fs : List (Str × Dv)} (h : RepF K H gs fs) : RepF K H' gs fs := Paired.mapP h fun _ _ q => ⟨q.1, q.2.mono t⟩
theorem RepK.mono (t : Tk K H H') {gs : List (Key × V)} {fs : List (Key × Dv)} (h : RepK K H gs fs) : RepK K H' gs fs := Paired.mapP h fun _ _ q => ⟨q.1, q.2.mono t⟩
def RepO (K : PySem.W.Frag) (H : Hp) (a : Addr) : MO → Prop
  | .lst ds => ∃ xs, H a = some (.lst xs) ∧ RepL K H xs ds
  | .dK kvs => ∃ gs, H a = some (.dK gs) ∧ RepK K H gs kvs
  | .ins C dx fs => ∃ gs, H a = some (.ins C dx gs) ∧ RepF K H gs fs
  | .xd fs => ∃ gs, H a = some (.xd gs) ∧ RepF K H gs fs
theorem RepO.mono (t : Tk K H H') {a : Addr} {m : MO} (e : ∀ o, H a = some o → H' a = some o) (h : RepO K H a m) : RepO K H' a m := by
  cases m with
  | lst ds => obtain ⟨gs, h1, h2⟩ := h; exact ⟨gs, e _ h1, h2.mono t⟩
  | dK kvs => obtain ⟨gs, h1, h2⟩ := h; exact ⟨gs, e _ h1, h2.mono t⟩
  | ins C dx fs => obtain ⟨gs, h1, h2⟩ := h; exact ⟨gs, e _ h1, h2.mono t⟩
  | xd fs => obtain ⟨gs, h1, h2⟩ := h; exact ⟨gs, e _ h1, h2.mono t⟩
theorem RepO.mlst {a : Addr} {xs : List V} {ds : List Dv} (h : H a = some (.lst xs)) (r : RepL K H xs ds) : RepO K H a (.lst ds) := ⟨xs, h, r⟩
theorem RepO.mdK {a : Addr} {gs : List (Key × V)} {kvs : List (Key × Dv)} (h : H a = some (.dK gs)) (r : RepK K H gs kvs) : RepO K H a (.dK kvs) := ⟨gs, h, r⟩
theorem RepO.mins {a C dx : Addr} {gs : List (Str × V)} {fs : List (Str × Dv)} (h : H a = some (.ins C dx gs)) (r : RepF K H gs fs) : RepO K H a (.ins C dx fs) := ⟨gs, h, r⟩
theorem RepO.mxd {a : Addr} {gs : List (Str × V)} {fs : List (Str × Dv)} (h : H a = some (.xd gs)) (r : RepF K H gs fs) : RepO K H a (.xd fs) := ⟨gs, h, r⟩
theorem wr_lst {ys : List V} : (∀ xs, HO.lst ys ≠ .tup xs) ∧ (∀ ob z, HO.lst ys ≠ .frz ob z) := by constructor <;> intros <;> intro h <;> cases h
theorem wr_dK {ys : List (Key × V)} : (∀ xs, HO.dK ys ≠ .tup xs) ∧ (∀ ob z, HO.dK ys ≠ .frz ob z) := by constructor <;> intros <;> intro h <;> cases h
theorem wr_ins {C dx : Addr} {ys : List (Str × V)} : (∀ xs, HO.ins C dx ys ≠ .tup xs) ∧ (∀ ob z, HO.ins C dx ys ≠ .frz ob z) := by constructor <;> intros <;> intro h <;> cases h
theorem wr_xd {ys : List (Str × V)} : (∀ xs, HO.xd ys ≠ .tup xs) ∧ (∀ ob z, HO.xd ys ≠ .frz ob z) := by constructor <;> intros <;> intro h <;> cases h
theorem RepO.there {a : Addr} {m : MO} (h : RepO K H a m) : ∃ o, H a = some o := by
  cases m with
  | lst ds => obtain ⟨gs, h1, h2⟩ := h; exact ⟨_, h1⟩
  | dK kvs => obtain ⟨gs, h1, h2⟩ := h; exact ⟨_, h1⟩
  | ins C dx fs => obtain ⟨gs, h1, h2⟩ := h; exact ⟨_, h1⟩
  | xd fs => obtain ⟨gs, h1, h2⟩ := h; exact ⟨_, h1⟩
def Abs (K : PySem.W.Frag) (H : Hp) (S : Sto) : Prop := ∀ a m, S a = some m → RepO K H a m
theorem Abs.sub {S T : Sto} (h : Abs K H T) (s : Sub S T) : Abs K H S := fun a m e => h a m (s a m e)
theorem Abs.free {S : Sto} (h : Abs K H S) {p : Addr} (n : H p = none) : S p = none := by
  cases e : S p with
  | none => rfl
  | some m =>
    obtain ⟨o, q⟩ := (h p m e).there
    rw [n] at q; cases q
theorem Abs.new {S : Sto} {p : Addr} {o : HO} {m : MO} (h : Abs K H S) (n : H p = none) (q : RepO K (upd H p o) p m) : Abs K (upd H p o) (put S p m) := fun a k e => by
  by_cases z : a = p
  · subst z; rw [put_same] at e; cases e; exact q
  · rw [put_ne z] at e
    exact (h a k e).mono (Tk.new n) fun u hu => by rw [upd_ne z]; exact hu
theorem Abs.tup {S : Sto} {p : Addr} {o : HO} (h : Abs K H S) (n : H p = none) : Abs K (upd H p o) S := fun a k e =>
  (h a k e).mono (Tk.new n) fun u hu => by rw [upd_ne (ne_of_none hu n)]; exact hu
theorem Abs.write {S : Sto} {p : Addr} {o u : HO} {m : MO} (h : Abs K H S) (e : H p = some u) (q : (∀ xs, u ≠ .tup xs) ∧ (∀ ob z, u ≠ .frz ob z)) (r : RepO K (upd H p o) p m) : Abs K (upd H p o) (put S p m) := fun a k ek => by
  by_cases z : a = p
  · subst z; rw [put_same] at ek; cases ek; exact r
  · rw [put_ne z] at ek
    exact (h a k ek).mono (Tk.write e q) fun v hv => by rw [upd_ne z]; exact hv
/-- what is stored is in the heap or in the written part -/
theorem Abs.same {S : Sto} (h : Abs K H S) (e : Same H H') : Abs K H' S := fun a m q => (h a m q).mono (Tk.same e) (e a)
end

/-! slots -/
structure RepS (K : PySem.W.Frag) (H : Hp) (σ : L2.St) (ρ : Rho) : Prop where
  len : σ.length = ρ.length
  at_ : ∀ (i : Nat) (d : Dv), ρ[i]? = some (some d) → ∃ v, σ[i]? = some (some v) ∧ Rep K H v d
section
variable {K : PySem.W.Frag} {H H' : Hp} {σ : L2.St} {ρ : Rho}
theorem RepS.mono (t : Tk K H H') (h : RepS K H σ ρ) : RepS K H' σ ρ := ⟨h.len, fun i d e => by
  obtain ⟨v, h1, h2⟩ := h.at_ i d e
  exact ⟨v, h1, h2.mono t⟩⟩
theorem RepS.set {v : V} {d : Dv} (h : RepS K H σ ρ) (i : Nat) (r : Rep K H v d) : RepS K H (σ.set i (some v)) (ρ.set i (some d)) := by
  refine ⟨by simp [h.len], fun j e q => ?_⟩
  by_cases hj : i = j
  · subst hj
    by_cases hl : i < ρ.length
    · rw [List.getElem?_set_self hl] at q
      cases q
      exact ⟨v, List.getElem?_set_self (by rw [h.len]; exact hl), r⟩
    · rw [List.getElem?_eq_none (by simp; omega)] at q; cases q
  · rw [List.getElem?_set_ne hj] at q ⊢
    exact h.at_ j e q
theorem RepS.setN (h : RepS K H σ ρ) (i : Nat) : RepS K H (σ.set i none) (ρ.set i none) := by
  refine ⟨by simp [h.len], fun j e q => ?_⟩
  by_cases hj : i = j
  · subst hj
    by_cases hl : i < ρ.length
    · rw [List.getElem?_set_self hl] at q; cases q
    · rw [List.getElem?_eq_none (by simp; omega)] at q; cases q
  · rw [List.getElem?_set_ne hj] at q ⊢
    exact h.at_ j e q
def wipeD (ρ : Rho) : List Nat → Rho
  | [] => ρ
  | v :: vs => (wipeD ρ vs).set v none
theorem RepS.wipe (h : RepS K H σ ρ) : ∀ vs, RepS K H (wipe σ vs) (wipeD ρ vs)
  | [] => h
  | v :: vs => (RepS.wipe h vs).setN v
def startD (N : List Str) (ds : List Dv) : Rho := ds.map some ++ List.replicate (N.length - ds.length) none
theorem RepS.start {N : List Str} : ∀ {vs : List V} {ds : List Dv}, RepL K H vs ds → RepS K H (start N vs) (startD N ds) := fun {vs ds} r => by
  have hl := r.length
  refine ⟨by simp [L2.start, startD, hl], fun i d e => ?_⟩
  unfold startD at e
  unfold L2.start
  by_cases hi : i < ds.length
  · rw [List.getElem?_append_left (by simpa using hi), List.getElem?_map] at e
    obtain ⟨d', e1, e2⟩ : ∃ d', ds[i]? = some d' ∧ d' = d := by
      cases q : ds[i]? with
      | none => rw [q] at e; cases e
      | some d' => rw [q] at e; cases e; exact ⟨_, rfl, rfl⟩
    subst e2
    obtain ⟨v, h1, h2⟩ := r.get e1
    exact ⟨v, by rw [List.getElem?_append_left (by simp; omega), List.getElem?_map, h1]; rfl, h2⟩
  · rw [List.getElem?_append_right (by simpa using hi)] at e
    rw [List.getElem?_replicate] at e
    split at e <;> cases e
end
end VD

namespace VD
open PySem PySem.Spec PyProof.Rows L2

abbrev QD := Dv → Sto → Prop
abbrev XD := Value → Option Addr → Sto → Prop
abbrev DE := Rho → Sto → QD → XD → Prop
abbrev DT := Rho → Sto → (Bool → Sto → Prop) → XD → Prop
abbrev DA := Rho → Sto → (List Dv → Sto → Prop) → XD → Prop
abbrev DO := Rho → Sto → (Option Int → Sto → Prop) → XD → Prop
structure DEnds where
  nx : Rho → Sto → Prop
  rt : Dv → Sto → Prop
  bk : Rho → Sto → Prop := fun _ _ => False
  ct : Rho → Sto → Prop := fun _ _ => False
  ex : Value → Option Addr → Rho → Sto → Prop := fun _ _ _ _ => False
abbrev DS := DEnds → Rho → Sto → Prop
abbrev W0 : WX := fun _ _ _ _ => False
abbrev X0 : XD := fun _ _ _ => False

section
variable (K : PySem.W.Frag) (W : WX)
def Lk (H : Hp) (Qh : QD) (Q : VK) : Prop := ∀ d S' v H', Qh d S' → Tk K H H' → Rep K H' v d → Abs K H' S' → Q v H'
def LkT (H : Hp) (Qh : Bool → Sto → Prop) (Q : Bool → Hp → Prop) : Prop := ∀ b S' H', Qh b S' → Tk K H H' → Abs K H' S' → Q b H'
def LkA (H : Hp) (Qh : List Dv → Sto → Prop) (Q : List V → Hp → Prop) : Prop := ∀ ds S' vs H', Qh ds S' → Tk K H H' → RepL K H' vs ds → Abs K H' S' → Q vs H'
def LkO (H : Hp) (Qh : Option Int → Sto → Prop) (Q : Option Int → Hp → Prop) : Prop := ∀ o S' H', Qh o S' → Tk K H H' → Abs K H' S' → Q o H'
def LkG (H : Hp) (Qh : Rho → Sto → Prop) (Q : L2.St → Hp → Prop) : Prop := ∀ ρ' S' σ' H', Qh ρ' S' → Tk K H H' → RepS K H' σ' ρ' → Abs K H' S' → Q σ' H'
def Lx (σ : L2.St) (H : Hp) (Xh : XD) : Prop := ∀ c da S' H', Xh c da S' → Tk K H H' → Abs K H' S' → W c da σ H'
structure LkS (H : Hp) (Dh : DEnds) (D : Ends) : Prop where
  nx : LkG K H Dh.nx D.nx
  rt : Lk K H Dh.rt D.rt
  bk : LkG K H Dh.bk D.bk
  ct : LkG K H Dh.ct D.ct
  ex : ∀ c da, LkG K H (Dh.ex c da) (W c da)
def low (de : DE) : TE := fun σ H Q => ∃ ρ S Qh Xh, RepS K H σ ρ ∧ Abs K H S ∧ de ρ S Qh Xh ∧ Lk K H Qh Q ∧ Lx K W σ H Xh
def lowT (dt : DT) : TT := fun σ H Q => ∃ ρ S Qh Xh, RepS K H σ ρ ∧ Abs K H S ∧ dt ρ S Qh Xh ∧ LkT K H Qh Q ∧ Lx K W σ H Xh
def lowA (da : DA) : TA := fun σ H Q => ∃ ρ S Qh Xh, RepS K H σ ρ ∧ Abs K H S ∧ da ρ S Qh Xh ∧ LkA K H Qh Q ∧ Lx K W σ H Xh
def lowO (da : DO) : TO := fun σ H Q => ∃ ρ S Qh Xh, RepS K H σ ρ ∧ Abs K H S ∧ da ρ S Qh Xh ∧ LkO K H Qh Q ∧ Lx K W σ H Xh
def lowS (ds : DS) : TS := fun D σ H => ∃ ρ S Dh, RepS K H σ ρ ∧ Abs K H S ∧ ds Dh ρ S ∧ LkS K W H Dh D
end
section
variable {K : PySem.W.Frag} {W : WX} {H H1 : Hp} {σ : L2.St}
theorem Lk.mono {Qh : QD} {Q : VK} (k : Lk K H Qh Q) (t : Tk K H H1) : Lk K H1 Qh Q := fun d S v H' q t' => k d S v H' q (t.trans t')
theorem LkT.mono {Qh : Bool → Sto → Prop} {Q : Bool → Hp → Prop} (k : LkT K H Qh Q) (t : Tk K H H1) : LkT K H1 Qh Q := fun d S H' q t' => k d S H' q (t.trans t')
theorem LkA.mono {Qh : List Dv → Sto → Prop} {Q : List V → Hp → Prop} (k : LkA K H Qh Q) (t : Tk K H H1) : LkA K H1 Qh Q := fun d S v H' q t' => k d S v H' q (t.trans t')
theorem LkO.mono {Qh : Option Int → Sto → Prop} {Q : Option Int → Hp → Prop} (k : LkO K H Qh Q) (t : Tk K H H1) : LkO K H1 Qh Q := fun d S H' q t' => k d S H' q (t.trans t')
theorem LkG.mono {Qh : Rho → Sto → Prop} {Q : L2.St → Hp → Prop} (k : LkG K H Qh Q) (t : Tk K H H1) : LkG K H1 Qh Q := fun d S v H' q t' => k d S v H' q (t.trans t')
theorem Lx.mono {Xh : XD} (k : Lx K W σ H Xh) (t : Tk K H H1) : Lx K W σ H1 Xh := fun c d S H' q t' => k c d S H' q (t.trans t')
theorem LkS.mono {Dh : DEnds} {D : Ends} (k : LkS K W H Dh D) (t : Tk K H H1) : LkS K W H1 Dh D := ⟨k.nx.mono t, k.rt.mono t, k.bk.mono t, k.ct.mono t, fun c d => (k.ex c d).mono t⟩
theorem Lk.now {Qh : QD} {Q : VK} (k : Lk K H Qh Q) {d : Dv} {S : Sto} {v : V} (q : Qh d S) (r : Rep K H v d) (a : Abs K H S) : Q v H := k d S v H q (Tk.refl H) r a
end

/-! weaker readings -/
section
variable {X : Cx}
theorem pei {e : Expr} {t t' : TE} (h : PE X e t) (i : ∀ σ H Q, t' σ H Q → t σ H Q) : PE X e t' := ⟨fun pins s σ H Q I q => h.run pins s σ H Q I (i σ H Q q)⟩
theorem pti {e : Expr} {t t' : TT} (h : PT X e t) (i : ∀ σ H Q, t' σ H Q → t σ H Q) : PT X e t' := ⟨fun pins s σ H Q I q => h.run pins s σ H Q I (i σ H Q q)⟩
theorem pwi {e : Expr} {t t' : TT} (h : PW X e t) (i : ∀ σ H Q, t' σ H Q → t σ H Q) : PW X e t' := ⟨fun wh pins s σ H Q I q => h.run wh pins s σ H Q I (i σ H Q q)⟩
theorem pai {e : List Expr} {t t' : TA} (h : PA X e t) (i : ∀ σ H Q, t' σ H Q → t σ H Q) : PA X e t' := ⟨fun pos pins s σ H Q I q => h.run pos pins s σ H Q I (i σ H Q q)⟩
theorem poi {e : Option Expr} {t t' : TO} (h : PO X e t) (i : ∀ σ H Q, t' σ H Q → t σ H Q) : PO X e t' := ⟨fun pins s σ H Q I q => h.run pins s σ H Q I (i σ H Q q)⟩
theorem psi {e : Stmt} {t t' : TS} (h : PS X e t) (i : ∀ D σ H, t' D σ H → t D σ H) : PS X e t' := ⟨fun pins s σ H D I q => h.run pins s σ H D I (i D σ H q)⟩
theorem pssi {e : List Stmt} {t t' : TS} (h : PSs X e t) (i : ∀ D σ H, t' D σ H → t D σ H) : PSs X e t' := ⟨fun pins s σ H D I q => h.run pins s σ H D I (i D σ H q)⟩
end

section
variable {X : Cx} {W : WX} {a b c e : Expr} {da db dc de : DE} {pos : Pos} {es : List Expr} {das : DA}

/-! names, constants -/
def dVar (i : Nat) : DE := fun ρ S Q _ => ∃ d, ρ[i]? = some (some d) ∧ Q d S
def dC (d : Dv) : DE := fun _ S Q _ => Q d S
theorem low_var (i : Nat) : ∀ σ H Q, low X.K W (dVar i) σ H Q → tVar i σ H Q := fun σ H Q ⟨ρ, S, Qh, Xh, hσ, hS, h, k, x⟩ => by
  obtain ⟨d, e, q⟩ := h
  obtain ⟨v, e', r⟩ := hσ.at_ i d e
  exact ⟨v, e', k.now q r hS⟩
theorem dv (i : Nat) {x : Str} {pos : Pos} (hN : X.N[i]? = some x := by rfl) (hv : Vis X.env.scope x := by first | exact Or.inl rfl | exact Or.inr (Or.inl rfl) | exact Or.inr (Or.inr rfl)) (hd : (x == ("__debug__" : Str)) = false := by decide)
    (hcd : (x == ("__classdict__" : Str)) = false := by decide) : PE X (.Name x pos) (low X.K W (dVar i)) := pei (pv i hN hv hd hcd) (low_var i)
theorem low_c {v : V} {d : Dv} (r : ∀ H, Rep X.K H v d) : ∀ σ H Q, low X.K W (dC d) σ H Q → tC v σ H Q := fun σ H Q ⟨ρ, S, Qh, Xh, hσ, hS, h, k, x⟩ => k.now h (r H) hS
theorem d_int {i j pos} : PE X (.Constant (.int i) j pos) (low X.K W (dC (.int i))) := pei pe_int (low_c fun _ => .int i)
theorem d_bl {b j pos} : PE X (.Constant (.bool b) j pos) (low X.K W (dC (.bl b))) := pei pe_bl (low_c fun _ => .bl b)
theorem d_non {j pos} : PE X (.Constant .none j pos) (low X.K W (dC .non)) := pei pe_non (low_c fun _ => .non)
theorem d_str {x j pos} : PE X (.Constant (.str x) j pos) (low X.K W (dC (.str x))) := pei pe_str (low_c fun _ => .str x)
/-- a written value as data -/
inductive VRep (K : PySem.W.Frag) : Value → Dv → Prop
  | mk {u : Value} {v : V} {d : Dv} (r : RelV v u) (h : ∀ H, Rep K H v d) : VRep K u d
theorem d_glob {x : Str} {u : Value} {d : Dv} {pos : Pos} (hm : X.mg x = some u) (r : VRep X.K u d) (hg : Gl X x := by rfl) (hd : (x == ("__debug__" : Str)) = false := by decide) : PE X (.Name x pos) (low X.K W (dC d)) := by
  cases r with | mk r h => exact pei (pe_glob hg hm r hd) (low_c h)
theorem d_bltn {x : Str} {v : V} {u : Value} {d : Dv} {pos : Pos} (hm : X.mg x = none) (hv : bootBuiltins x = some u) (r : RelV v u) (h : ∀ H, Rep X.K H v d) (hg : Gl X x := by rfl) (hn : x ≠ "__name__" := by decide) (hd : (x == ("__debug__" : Str)) = false := by decide) :
    PE X (.Name x pos) (low X.K W (dC d)) := pei (pe_bltn hg hm hv r hn hd) (low_c h)

/-! arguments -/
def dNil : DA := fun _ S Q _ => Q [] S
def dCons (da : DE) (dr : DA) : DA := fun ρ S Q X => da ρ S (fun x S1 => dr ρ S1 (fun xs S2 => Q (x :: xs) S2) X) X
theorem da_nil : PA X [] (lowA X.K W dNil) := pai pa_nil fun σ H Q ⟨ρ, S, Qh, Xh, hσ, hS, h, k, x⟩ => k [] S [] H h (Tk.refl H) .nil hS
theorem da_cons (ha : PE X e (low X.K W de)) (hr : PA X es (lowA X.K W das)) (hs : starEach (e :: es) X.env = (false, eval e X.env) :: starEach es X.env := by rfl) : PA X (e :: es) (lowA X.K W (dCons de das)) :=
  pai (pa_cons ha hr hs) fun σ H Q ⟨ρ, S, Qh, Xh, hσ, hS, h, k, x⟩ => ⟨ρ, S, _, Xh, hσ, hS, h, fun d S1 v H1 q1 t1 r1 a1 => ⟨ρ, S1, _, Xh, hσ.mono t1, a1, q1, fun ds S2 vs H2 q2 t2 r2 a2 => k _ S2 _ H2 q2 (t1.trans t2) (.cons (r1.mono t2) r2) a2, x.mono t1⟩, x⟩

/-! two-place operators -/
abbrev RD2 := Dv → Dv → Sto → QD → Prop
def LR2 (K : PySem.W.Frag) (r : R2) (rd : RD2) : Prop := ∀ x y H dx dy S Qh Q, Rep K H x dx → Rep K H y dy → Abs K H S → rd dx dy S Qh → Lk K H Qh Q → r x y H Q
def dOp (rd : RD2) (da db : DE) : DE := fun ρ S Q X => da ρ S (fun x S1 => db ρ S1 (fun y S2 => rd x y S2 Q) X) X
theorem low_op {r : R2} {rd : RD2} (hl : LR2 X.K r rd) : ∀ σ H Q, low X.K W (dOp rd da db) σ H Q → tOp r (low X.K W da) (low X.K W db) σ H Q := fun σ H Q ⟨ρ, S, Qh, Xh, hσ, hS, h, k, x⟩ =>
  ⟨ρ, S, _, Xh, hσ, hS, h, fun d1 S1 v1 H1 q1 t1 r1 a1 => ⟨ρ, S1, _, Xh, hσ.mono t1, a1, q1, fun d2 S2 v2 H2 q2 t2 r2 a2 => hl v1 v2 H2 d1 d2 S2 Qh Q (r1.mono t2) r2 a2 q2 (k.mono (t1.trans t2)), x.mono t1⟩, x⟩
theorem d_op {op : Operator} {r : R2} {rd : RD2} (ho : OpR X (binaryOp op) r) (hl : LR2 X.K r rd) (ha : PE X a (low X.K W da)) (hb : PE X b (low X.K W db)) : PE X (.BinOp a op b pos) (low X.K W (dOp rd da db)) := pei (pe_op ho ha hb) (low_op hl)
theorem d_cmp {op : CmpOp} {r : R2} {rd : RD2} (ho : OpR X (compareOp op) r) (hl : LR2 X.K r rd) (ha : PE X a (low X.K W da)) (hb : PE X b (low X.K W db)) (hm : behindInMarks op b = false := by first | exact nomark _ | rfl) :
    PE X (.Compare a [op] [b] pos) (low X.K W (dOp rd da db)) := pei (pe_cmpR ho ha hb hm) (low_op hl)
/-- an expression's truth, a bool -/
def dTest (de : DE) : DT := fun ρ S Q X => de ρ S (fun x S1 => match x with | .bl b => Q b S1 | _ => False) X
theorem low_tB {σ H} {Q : Bool → Hp → Prop} : lowT X.K W (dTest de) σ H Q → (low X.K W de) σ H (fun x H1 => ∃ c, x = .bl c ∧ Q c H1) := fun ⟨ρ, S, Qh, Xh, hσ, hS, h, k, x⟩ =>
  ⟨ρ, S, _, Xh, hσ, hS, h, fun d1 S1 v1 H1 q1 t1 r1 a1 => by
    cases d1 with
    | bl b => exact ⟨b, r1.i_bl, k b S1 H1 q1 t1 a1⟩
    | _ => exact q1.elim, x⟩
theorem t_cmp {op : CmpOp} {r : R2} {rd : RD2} (ho : OpR X (compareOp op) r) (hl : LR2 X.K r rd) (ha : PE X a (low X.K W da)) (hb : PE X b (low X.K W db)) (hm : behindInMarks op b = false := by first | exact nomark _ | rfl) :
    PT X (.Compare a [op] [b] pos) (lowT X.K W (dTest (dOp rd da db))) := pti (pt_cmpR ho ha hb hm) fun σ H Q h => by
  obtain ⟨ρ, S, Qh, Xh, hσ, hS, h, k, x⟩ := low_tB h
  exact low_op hl σ H _ ⟨ρ, S, Qh, Xh, hσ, hS, h, k, x⟩
theorem t_val (h : PE X e (low X.K W de)) (he : ∀ whole, isTrue e X.env whole = (do let v ← whole; standAt e.pos; holding [v] (truthy v)) := by intro _; rfl) : PT X e (lowT X.K W (dTest de)) := pti (pt_val h he) fun σ H Q q => low_tB q
def dChain (r r' : RD2) (da db dc : DE) : DE := fun ρ S Q X => da ρ S (fun x S1 => db ρ S1 (fun y S2 => r x y S2 fun z S3 => match z with
  | .bl true => dc ρ S3 (fun u S4 => r' y u S4 Q) X
  | .bl false => Q (.bl false) S3
  | _ => False) X) X
end

/-! builtins -/
abbrev RDC := List Dv → Sto → QD → Prop
def LRC (K : PySem.W.Frag) (r : List V → Hp → VK → Prop) (rd : RDC) : Prop := ∀ vs H ds S Qh Q, RepL K H vs ds → Abs K H S → rd ds S Qh → Lk K H Qh Q → r vs H Q
def dCB (rd : RDC) (das : DA) : DE := fun ρ S Q X => das ρ S (fun ds S1 => rd ds S1 Q) X
section
variable {X : Cx} {W : WX} {a b c e : Expr} {da db dc de : DE} {pos p : Pos} {es : List Expr} {das : DA} {x : Str} {id T : String} {r : List V → Hp → VK → Prop} {rd : RDC}
theorem low_cb (hl : LRC X.K r rd) : ∀ σ H Q, low X.K W (dCB rd das) σ H Q → tCB r (lowA X.K W das) σ H Q := fun σ H Q ⟨ρ, S, Qh, Xh, hσ, hS, h, k, x⟩ =>
  ⟨ρ, S, _, Xh, hσ, hS, h, fun ds S1 vs H1 q1 t1 r1 a1 => hl vs H1 ds S1 Qh Q r1 a1 q1 (k.mono t1), x⟩
theorem d_callB (hc : CallR X (.builtin id) r) (hl : LRC X.K r rd) (hm : X.mg x = none) (hv : bootBuiltins x = some (.builtin id)) (ha : PA X (e :: es) (lowA X.K W das)) (hg : Gl X x := by rfl) (hn : x ≠ "__name__" := by decide) (hdb : (x == ("__debug__" : Str)) = false := by decide)
    (he : starEach (e :: es) X.env = (false, eval e X.env) :: starEach es X.env := by rfl) (hpl : (backTo pos (starEach es X.env)).any (·.1) = false := by rfl) : PE X (.Call (.Name x p) (e :: es) [] pos) (low X.K W (dCB rd das)) := pei (pe_callB hc hg hm hv ha hn hdb he hpl) (low_cb hl)
theorem d_callTy (hc : CallR X (.type T) r) (hl : LRC X.K r rd) (hm : X.mg x = none) (hv : bootBuiltins x = some (.type T)) (ha : PA X (e :: es) (lowA X.K W das)) (hg : Gl X x := by rfl) (hn : x ≠ "__name__" := by decide) (hdb : (x == ("__debug__" : Str)) = false := by decide)
    (he : starEach (e :: es) X.env = (false, eval e X.env) :: starEach es X.env := by rfl) (hpl : (backTo pos (starEach es X.env)).any (·.1) = false := by rfl) : PE X (.Call (.Name x p) (e :: es) [] pos) (low X.K W (dCB rd das)) := pei (pe_callTy hc hg hm hv ha hn hdb he hpl) (low_cb hl)

/-! own defs -/
abbrev SpD := List Dv → Sto → QD → XD → Prop
def LxE (K : PySem.W.Frag) (H : Hp) (Xh : XD) (E : XK) : Prop := ∀ c da S' H', Xh c da S' → Tk K H H' → Abs K H' S' → E c da H'
def lowF (K : PySem.W.Frag) (sp : SpD) : Sp := fun vs H Q E => ∃ ds S Qh Xh, RepL K H vs ds ∧ Abs K H S ∧ sp ds S Qh Xh ∧ Lk K H Qh Q ∧ LxE K H Xh E
def dCall (sp : SpD) (das : DA) : DE := fun ρ S Q X => das ρ S (fun ds S1 => sp ds S1 Q X) X
variable {sp : SpD} {k : Nat} {f : Addr} {fd : FuncData} {ps : List Str}
abbrev FnD (P : Program) (w : World) (K : PySem.W.Frag) (mg : Str → Option Value) (base : Heap) (k : Nat) (f : Addr) (fd : FuncData) (ps : List Str) (sp : SpD) : Prop := FnG P w K mg base (L2.CX P w) k f fd ps (lowF K sp)
theorem d_call (F : FnD X.prog X.w X.K X.mg X.base k f fd ps sp) (hr : RoomG k X.A) (hm : X.mg x = some (.ref f)) (hk : PySem.W.keepIn X.K (.ref f) = true) (hb : Binds X.K fd ps []) (tk : Takes X W) (ha : PA X (e :: es) (lowA X.K W das))
    (hg : Gl X x := by rfl) (hdb : (x == ("__debug__" : Str)) = false := by decide) (he : starEach (e :: es) X.env = (false, eval e X.env) :: starEach es X.env := by rfl) (hpl : (backTo pos (starEach es X.env)).any (·.1) = false := by rfl) :
    PE X (.Call (.Name x p) (e :: es) [] pos) (low X.K W (dCall sp das)) :=
  pei (pe_callG F hr hg hm hk hb (fun σ => passAt tk σ) ha hdb he hpl) fun σ H Q ⟨ρ, S, Qh, Xh, hσ, hS, h, k, x⟩ => ⟨ρ, S, _, Xh, hσ, hS, h, fun ds S1 vs H1 q1 t1 r1 a1 => ⟨ds, S1, Qh, Xh, r1, a1, q1, k.mono t1, x.mono t1⟩, x⟩
end

section
variable {X : Cx} {W : WX} {a b c e o : Expr} {da db dc de : DE} {pos p apos : Pos} {es : List Expr} {das : DA} {x m f : Str} {sp : SpD} {k : Nat} {g C : Addr} {fd : FuncData} {ps : List Str}
theorem d_call0 (F : FnD X.prog X.w X.K X.mg X.base k g fd ps sp) (hr : RoomG k X.A) (hm : X.mg x = some (.ref g)) (hk : PySem.W.keepIn X.K (.ref g) = true) (hb : Binds X.K fd ps []) (tk : Takes X W) (hg : Gl X x := by rfl) (hdb : (x == ("__debug__" : Str)) = false := by decide) :
    PE X (.Call (.Name x p) [] [] pos) (low X.K W (dCall sp dNil)) :=
  pei (pe_callG0 F hr hg hm hk hb (fun σ => passAt tk σ) hdb) fun σ H Q ⟨ρ, S, Qh, Xh, hσ, hS, h, k, x⟩ => ⟨[], S, Qh, Xh, .nil, hS, h, k, x⟩
/-! ### instances -/
/-- what stands there is an instance: its class, its fields -/
def insOf (d : Dv) (S : Sto) (R : Addr → List Str → List Dv → Prop) : Prop := match d with
  | .obj C ns ds => R C ns ds
  | .ref a => match S a with
    | some (.ins C _ fs) => R C (fs.map (·.1)) (fs.map (·.2))
    | _ => False
  | _ => False
/-- the field f of such -/
def getF (f : Str) : List Str → List Dv → Option Dv
  | n :: ns, d :: ds => if (f == n) = true then some d else getF f ns ds
  | _, _ => none
theorem getF_i {K : PySem.W.Frag} {H : Hp} {f : Str} {d : Dv} : ∀ {ns : List Str} {vs : List V} {ds : List Dv}, RepL K H vs ds → getF f ns ds = some d → ∃ v, (ns.zip vs).lookup f = some v ∧ Rep K H v d
  | [], _, _, _, e => by simp [getF] at e
  | n :: ns, _, [], _, e => by simp [getF] at e
  | n :: ns, _, d' :: ds, l, e => by
    obtain ⟨v, vs, rfl, r, l'⟩ := l.cons_i
    unfold getF at e
    rw [List.zip_cons_cons, List.lookup_cons]
    cases h : f == n with
    | true =>
      rw [if_pos h] at e
      cases e
      exact ⟨v, rfl, r⟩
    | false =>
      rw [if_neg (by rw [h]; decide)] at e
      exact getF_i l' e
theorem getF_none {K : PySem.W.Frag} {H : Hp} {f : Str} : ∀ {ns : List Str} {vs : List V} {ds : List Dv}, ns.length = vs.length → RepL K H vs ds → getF f ns ds = none → (ns.zip vs).lookup f = none
  | [], _, _, _, _, _ => rfl
  | n :: ns, [], _, e, _, _ => by cases e
  | n :: ns, v :: vs, ds, e, l, h => by
    cases l with
    | cons r l' =>
      unfold getF at h
      rw [List.zip_cons_cons, List.lookup_cons]
      cases q : f == n with
      | true => rw [if_pos q] at h; cases h
      | false =>
        rw [if_neg (by rw [q]; decide)] at h
        exact getF_none (by simpa using e) l' h
theorem repF_zip {K : PySem.W.Frag} {H : Hp} : ∀ {gs : List (Str × V)} {fs : List (Str × Dv)}, RepF K H gs fs → RepL K H (gs.map (·.2)) (fs.map (·.2)) ∧ gs = (fs.map (·.1)).zip (gs.map (·.2)) ∧ gs.map (·.1) = fs.map (·.1)
  | _, _, .nil => ⟨.nil, rfl, rfl⟩
  | (g, v) :: gs, (n, d) :: fs, .cons ⟨e, r⟩ t => by
    dsimp only at e r
    obtain ⟨h1, h2, h3⟩ := repF_zip t
    subst e
    refine ⟨.cons r h1, ?_, by simp [h3]⟩
    simp only [List.map_cons, List.zip_cons_cons]
    rw [← h2]
theorem insOf_i {K : PySem.W.Frag} {H : Hp} {S : Sto} {d : Dv} {v : V} {R : Addr → List Str → List Dv → Prop} (r : Rep K H v d) (hS : Abs K H S) (h : insOf d S R) : ∃ a C dx ns vs ds, v = .ref a ∧ InsAt H a C dx (ns.zip vs) ∧ ns.length = vs.length ∧ RepL K H vs ds ∧ R C ns ds := by
  unfold insOf at h
  split at h
  · obtain ⟨a, dx, ob, vs, rfl, e, l, rl⟩ := r.i_obj
    exact ⟨a, _, dx, _, vs, _, rfl, .inr ⟨ob, e⟩, l, rl, h⟩
  · rename_i a
    split at h
    · rename_i C dx fs ea
      obtain ⟨gs, h1, h2⟩ := hS _ _ ea
      obtain ⟨g1, g2, g3⟩ := repF_zip h2
      refine ⟨a, C, dx, _, gs.map (·.2), _, r.i_ref, .inl (by rw [← g2]; exact h1), ?_, g1, h⟩
      rw [← g3]; simp
    · exact h.elim
  · exact h.elim
/-- e.f -/
def dFld (cs : List Addr) (f : Str) (de : DE) : DE := fun ρ S Q X => de ρ S (fun x S1 => insOf x S1 fun C ns ds => C ∈ cs ∧ ∃ d, getF f ns ds = some d ∧ Q d S1) X
theorem d_fld {cs : List Addr} (hc : ∀ C ∈ cs, Cls X.K C ∧ NoAttr X.K C f) (he : PE X e (low X.K W de)) (hb : attributeBase e f X.env (eval e X.env) = eval e X.env := by rfl) : PE X (.Attribute e f pos) (low X.K W (dFld cs f de)) :=
  pei (pe_fldG he hc hb) fun σ H Q ⟨ρ, S, Qh, Xh, hσ, hS, h, k, x⟩ => ⟨ρ, S, _, Xh, hσ, hS, h, fun d1 S1 v1 H1 q1 t1 r1 a1 => by
    obtain ⟨a, C, dx, ns, vs, ds, rfl, e1, l, rl, hm, d, hd, q⟩ := insOf_i r1 a1 q1
    obtain ⟨v, hv, rv⟩ := getF_i rl hd
    exact ⟨a, C, dx, _, v, rfl, e1, hm, hv, k d S1 v H1 q t1 rv a1⟩, x⟩
/-! methods -/
def dMeth (tab : List (Addr × SpD)) (m : Str) (dO : DE) (das : DA) : DE := fun ρ S Q X => dO ρ S (fun x S1 => insOf x S1 fun C ns ds => getF m ns ds = none ∧ ∃ sp, (C, sp) ∈ tab ∧ das ρ S1 (fun vs S2 => sp (x :: vs) S2 Q X) X) X
/-- the class C, its method m at level up to k -/
structure MT (X : Cx) (m : Str) (k : Nat) (C : Addr) (sp : SpD) : Prop where
  c : Cls X.K C
  go : ∃ g, Meth X.K C m g ∧ ∃ (k' : Nat) (fd : FuncData) (ps : List Str), k' ≤ k ∧ FnD X.prog X.w X.K X.mg X.base k' g fd ps sp ∧ Binds X.K fd ps []
theorem mts_nil {m : Str} : ∀ C sp, (C, sp) ∈ ([] : List (Addr × SpD)) → MT X m k C sp := fun _ _ h => by cases h
theorem mts_cons {m : Str} {C : Addr} {sp : SpD} {tab : List (Addr × SpD)} (h : MT X m k C sp) (t : ∀ C sp, (C, sp) ∈ tab → MT X m k C sp) : ∀ C' sp', (C', sp') ∈ (C, sp) :: tab → MT X m k C' sp' := fun C' sp' q => by
  rcases List.mem_cons.mp q with q | q
  · cases q; exact h
  · exact t _ _ q
theorem mtab {tab : List (Addr × SpD)} {E : L2.St → XK} (ht : ∀ C sp, (C, sp) ∈ tab → MT X m k C sp) : ∀ C sp, (C, sp) ∈ tab.map (fun p => (p.1, lowF X.K p.2)) → ∃ f, MTab X (L2.CX X.prog X.w) m k E C f sp := fun C sp h => by
  obtain ⟨⟨C', sp'⟩, h1, h2⟩ := List.mem_map.mp h
  cases h2
  have M := ht _ _ h1
  obtain ⟨g, hm, k', fd, ps, hk, F, hb⟩ := M.go
  exact ⟨g, M.c, hm, k', fd, ps, hk, F, hb⟩
theorem low_meth {tab : List (Addr × SpD)} {dO : DE} : ∀ σ H Q, low X.K W (dMeth tab m dO das) σ H Q → tMethG (tab.map fun p => (p.1, lowF X.K p.2)) m (WE W) (low X.K W dO) (lowA X.K W das) σ H Q := fun σ H Q ⟨ρ, S, Qh, Xh, hσ, hS, h, k, x⟩ =>
  ⟨ρ, S, _, Xh, hσ, hS, h, fun d1 S1 v1 H1 q1 t1 r1 a1 => by
    obtain ⟨a, C, dx, ns, vs, ds, rfl, e1, l, rl, hn, sp, hm, q⟩ := insOf_i r1 a1 q1
    refine ⟨a, C, dx, _, lowF X.K sp, rfl, e1, getF_none l rl hn, List.mem_map.mpr ⟨_, hm, rfl⟩, ρ, S1, _, Xh, hσ.mono t1, a1, q, fun ws S2 us H2 q2 t2 r2 a2 => ?_, x.mono t1⟩
    exact ⟨_, S2, Qh, Xh, .cons (r1.mono t2) r2, a2, q2, k.mono (t1.trans t2), x.mono (t1.trans t2)⟩, x⟩
theorem d_meth {tab : List (Addr × SpD)} {dO : DE} {pl : Sem Bool} (ht : ∀ C sp, (C, sp) ∈ tab → MT X m k C sp) (hr : RoomG k X.A) (tk : Takes X W) (ho : PE X o (low X.K W dO)) (ha : PA X (e :: es) (lowA X.K W das))
    (hst : starEach (e :: es) X.env = (false, eval e X.env) :: starEach es X.env := by rfl) (hpl : (backTo pos (starEach es X.env)).any (·.1) = false := by rfl)
    (hev : eval (.Call (.Attribute o m apos) (e :: es) [] pos) X.env = (do
      let ov ← eval o X.env
      standAt apos.atName
      let (f, first) ← holding [ov] (getMethod ov m pl)
      callWith pos f first (backTo pos (starEach (e :: es) X.env)) (backToKw pos (keywordEach [] X.env))) := by rfl) : PE X (.Call (.Attribute o m apos) (e :: es) [] pos) (low X.K W (dMeth tab m dO das)) :=
  pei (pe_methG (E := WE W) (pl := pl) ho (mtab ht) hr (fun σ => passAt tk σ) ha hst hpl hev) low_meth
theorem low_nilA : ∀ σ H Q, lowA X.K W dNil σ H Q → tNil σ H Q := fun σ H Q ⟨ρ, S, Qh, Xh, hσ, hS, h, k, x⟩ => k [] S [] H h (Tk.refl H) .nil hS
theorem d_meth0 {tab : List (Addr × SpD)} {dO : DE} {pl : Sem Bool} (ht : ∀ C sp, (C, sp) ∈ tab → MT X m k C sp) (hr : RoomG k X.A) (tk : Takes X W) (ho : PE X o (low X.K W dO))
    (hev : eval (.Call (.Attribute o m apos) [] [] pos) X.env = (do
      let ov ← eval o X.env
      standAt apos.atName
      let (f, first) ← holding [ov] (getMethod ov m pl)
      callWith pos f first (backTo pos (starEach [] X.env)) (backToKw pos (keywordEach [] X.env))) := by rfl) : PE X (.Call (.Attribute o m apos) [] [] pos) (low X.K W (dMeth tab m dO dNil)) :=
  pei (pe_methG0 (E := WE W) (pl := pl) ho (mtab ht) hr (fun σ => passAt tk σ) hev) fun σ H Q h => by
    obtain ⟨ρ, S, Qh, Xh, hσ, hS, h, k, x⟩ := low_meth σ H Q h
    exact ⟨ρ, S, Qh, Xh, hσ, hS, h, fun d1 S1 v1 H1 q1 t1 r1 a1 => by
      obtain ⟨a, C, dx, fs, sp, e1, e2, e3, e4, q⟩ := k d1 S1 v1 H1 q1 t1 r1 a1
      exact ⟨a, C, dx, fs, sp, e1, e2, e3, e4, low_nilA _ _ _ q⟩, x⟩
/-! C(..): kept in the store -/
def dMake (C : Addr) (sp : SpD) (das : DA) : DE := fun ρ S Q X => das ρ S (fun vs S1 => ∀ x dx, S1 x = none → S1 dx = none → dx ≠ x → sp (.ref x :: vs) (put S1 x (.ins C dx [])) (fun v S2 => v = .non ∧ Q (.ref x) S2) X) X
theorem low_make : ∀ σ H Q, low X.K W (dMake C sp das) σ H Q → tMakeG C (lowF X.K sp) (WE W) (lowA X.K W das) σ H Q := fun σ H Q ⟨ρ, S, Qh, Xh, hσ, hS, h, k, x⟩ =>
  ⟨ρ, S, _, Xh, hσ, hS, h, fun ds S1 vs H1 q1 t1 r1 a1 y dx ny nd ne => by
    have t2 : Tk X.K H1 (upd H1 dx (.own y)) := Tk.new nd
    have n2 : upd H1 dx (.own y) y = none := by rw [upd_ne ne.symm]; exact ny
    have t3 := t2.trans (Tk.new (o := .ins C dx []) n2)
    refine ⟨_, _, _, Xh, .cons (.ref y) (r1.mono t3), (a1.tup nd).new n2 (.mins upd_same .nil), q1 y dx (a1.free ny) (a1.free nd) ne, fun d S' v H' q t r a => ?_, (x.mono t1).mono t3⟩
    obtain ⟨rfl, q⟩ := q
    exact ⟨r.i_non, k _ _ _ _ q ((t1.trans t3).trans t) (.ref y) a⟩, x⟩
theorem d_make {fI : Addr} (M : Mk X.K C fI) (F : FnD X.prog X.w X.K X.mg X.base k fI fd ps sp) (hr : RoomG (k + 1) X.A) (hm : X.mg x = some (.ref C)) (hb : Binds X.K fd ps []) (tk : Takes X W) (ha : PA X (e :: es) (lowA X.K W das)) (hg : Gl X x := by rfl)
    (hdb : (x == ("__debug__" : Str)) = false := by decide) (he : starEach (e :: es) X.env = (false, eval e X.env) :: starEach es X.env := by rfl) (hpl : (backTo pos (starEach es X.env)).any (·.1) = false := by rfl) :
    PE X (.Call (.Name x p) (e :: es) [] pos) (low X.K W (dMake C sp das)) := pei (pe_makeG (E := WE W) M F hr hg hm hb (fun σ => passAt tk σ) ha hdb he hpl) low_make
theorem d_make0 {fI : Addr} (M : Mk X.K C fI) (F : FnD X.prog X.w X.K X.mg X.base k fI fd ps sp) (hr : RoomG (k + 1) X.A) (hm : X.mg x = some (.ref C)) (hb : Binds X.K fd ps []) (tk : Takes X W) (hg : Gl X x := by rfl) (hdb : (x == ("__debug__" : Str)) = false := by decide) :
    PE X (.Call (.Name x p) [] [] pos) (low X.K W (dMake C sp dNil)) := pei (pe_makeG0 (E := WE W) M F hr hg hm hb (fun σ => passAt tk σ) hdb) fun σ H Q h => by
  obtain ⟨ρ, S, Qh, Xh, hσ, hS, h, k, x⟩ := low_make σ H Q h
  exact k [] S [] H h (Tk.refl H) .nil hS
/-- what is made is frozen: a list, a dict, an instance by its value -/
def frzD (d : Dv) (S : Sto) (Q : QD) : Prop := match d with
  | .ref a => match S a with
    | some (.lst xs) => Q (.rol xs) (rm S a)
    | some (.dK kvs) => Q (.rod (kvs.map (·.1)) (kvs.map (·.2))) (rm S a)
    | some (.ins C _ fs) => Q (.obj C (fs.map (·.1)) (fs.map (·.2))) (rm S a)
    | _ => False
  | d => Q d S
theorem lk_frzD {K : PySem.W.Frag} {H1 : Hp} {S1 : Sto} {v1 : V} {d1 : Dv} {Qh : QD} {Q : VK} (r1 : Rep K H1 v1 d1) (a1 : Abs K H1 S1) (q1 : frzD d1 S1 Qh) (k : Lk K H1 Qh Q) : Q v1 H1 ∨ ∃ a u, v1 = .ref a ∧ H1 a = some u ∧ canFrz u = true ∧ ∀ o, Q v1 (upd H1 a (.frz o u)) := by
  unfold frzD at q1
  have offS : ∀ {a : Addr} {o : Obj} {u : HO}, H1 a = some u → canFrz u = true → Tk K H1 (upd H1 a (.frz o u)) ∧ Abs K (upd H1 a (.frz o u)) (rm S1 a) := by
    intro a o u e hu
    have ne : ∀ b z, H1 b = some z → canFrz z = false → b ≠ a := fun b z hb hz q => by subst q; rw [e] at hb; cases hb; rw [hu] at hz; cases hz
    have t : Tk K H1 (upd H1 a (.frz o u)) := Tk.of fun b z hz => by
      by_cases hb : b = a
      · subst hb; rw [e] at hz; cases hz
        exact .inl ⟨fun xs q => by (subst q; cases hu), fun ob w q => by (subst q; cases hu)⟩
      · exact .inr (by rw [upd_ne hb]; exact hz)
    refine ⟨t, fun b m hb => ?_⟩
    by_cases q : b = a
    · rw [q, rm_same] at hb; cases hb
    · rw [rm_ne q] at hb
      exact (a1 b m hb).mono t fun z hz => by rw [upd_ne q]; exact hz
  split at q1
  · rename_i a
    split at q1
    · rename_i xs ea
      obtain ⟨us, h1, l⟩ := a1 _ _ ea
      refine .inr ⟨a, _, r1.i_ref, h1, rfl, fun o => ?_⟩
      obtain ⟨t, ab⟩ := offS (o := o) h1 rfl
      rw [r1.i_ref]
      exact k _ _ _ _ q1 t (.rol (.inl ⟨o, upd_same⟩) (l.mono t)) ab
    · rename_i kvs ea
      obtain ⟨us, h1, l⟩ := a1 _ _ ea
      refine .inr ⟨a, _, r1.i_ref, h1, rfl, fun o => ?_⟩
      obtain ⟨t, ab⟩ := offS (o := o) h1 rfl
      rw [r1.i_ref]
      have z : ∀ {gs : List (Key × V)} {fs : List (Key × Dv)}, RepK K H1 gs fs → RepL K H1 (gs.map (·.2)) (fs.map (·.2)) ∧ gs = (fs.map (·.1)).zip (gs.map (·.2)) ∧ (fs.map (·.1)).length = (gs.map (·.2)).length := by
        intro gs fs h
        induction h with
        | nil => exact ⟨.nil, rfl, rfl⟩
        | @cons p q gs fs hp t ih =>
          obtain ⟨g, v⟩ := p
          obtain ⟨n, d⟩ := q
          obtain ⟨e, r⟩ := hp
          dsimp only at e r
          subst e
          refine ⟨.cons r ih.1, ?_, by simpa using ih.2.2⟩
          simp only [List.map_cons, List.zip_cons_cons]
          rw [← ih.2.1]
      obtain ⟨z1, z2, z3⟩ := z l
      exact k _ _ _ _ q1 t (.rod (o := o) (vs := us.map (·.2)) (by rw [← z2]; exact upd_same) z3 (z1.mono t)) ab
    · rename_i C dx fs ea
      obtain ⟨us, h1, l⟩ := a1 _ _ ea
      refine .inr ⟨a, _, r1.i_ref, h1, rfl, fun o => ?_⟩
      obtain ⟨t, ab⟩ := offS (o := o) h1 rfl
      rw [r1.i_ref]
      obtain ⟨z1, z2, z3⟩ := repF_zip l
      exact k _ _ _ _ q1 t (.obj (o := o) (dx := dx) (vs := us.map (·.2)) (by rw [← z2]; exact upd_same) (by rw [← z3]; simp) (z1.mono t)) ab
    · exact q1.elim
  · exact .inl (k _ _ _ _ q1 (Tk.refl _) r1 a1)
def dFrz (de : DE) : DE := fun ρ S Q X => de ρ S (fun d S1 => frzD d S1 Q) X
theorem d_frz (h : PE X e (low X.K W de)) : PE X e (low X.K W (dFrz de)) := pei (pe_frz h) fun σ H Q ⟨ρ, S, Qh, Xh, hσ, hS, h, k, x⟩ => ⟨ρ, S, _, Xh, hσ, hS, h, fun d1 S1 v1 H1 q1 t1 r1 a1 => lk_frzD r1 a1 q1 (k.mono t1), x⟩
end

/-! and, or, not, if as values and as tests -/
section
variable {X : Cx} {W : WX} {a b c e : Expr} {da db dc de : DE} {pos : Pos} {rest : List Expr} {ta tb : DT}
def dAndV (da db : DE) : DE := fun ρ S Q X => da ρ S (fun x S1 => match x with | .bl true => db ρ S1 Q X | .bl false => Q (.bl false) S1 | _ => False) X
def dOrV (da db : DE) : DE := fun ρ S Q X => da ρ S (fun x S1 => match x with | .bl true => Q (.bl true) S1 | .bl false => db ρ S1 Q X | _ => False) X
def dNotV (da : DE) : DE := fun ρ S Q X => da ρ S (fun x S1 => match x with | .bl b => Q (.bl (!b)) S1 | _ => False) X
def dIf (t : DT) (da db : DE) : DE := fun ρ S Q X => t ρ S (fun b S1 => if b = true then da ρ S1 Q X else db ρ S1 Q X) X
theorem d_one {op} (h : PE X a (low X.K W da)) : PE X (.BoolOp op [a] pos) (low X.K W da) := pe_one h
theorem d_and (ha : PE X a (low X.K W da)) (hb : PE X (.BoolOp .And (b :: rest) pos) (low X.K W db)) : PE X (.BoolOp .And (a :: b :: rest) pos) (low X.K W (dAndV da db)) := pei (pe_and ha hb) fun σ H Q ⟨ρ, S, Qh, Xh, hσ, hS, h, k, x⟩ =>
  ⟨ρ, S, _, Xh, hσ, hS, h, fun d1 S1 v1 H1 q1 t1 r1 a1 => by
    cases d1 with
    | bl b =>
      refine ⟨b, r1.i_bl, ?_⟩
      cases b with
      | true => exact ⟨ρ, S1, Qh, Xh, hσ.mono t1, a1, q1, k.mono t1, x.mono t1⟩
      | false => exact (k.mono t1).now q1 (.bl false) a1
    | _ => exact q1.elim, x⟩
theorem d_or (ha : PE X a (low X.K W da)) (hb : PE X (.BoolOp .Or (b :: rest) pos) (low X.K W db)) : PE X (.BoolOp .Or (a :: b :: rest) pos) (low X.K W (dOrV da db)) := pei (pe_or ha hb) fun σ H Q ⟨ρ, S, Qh, Xh, hσ, hS, h, k, x⟩ =>
  ⟨ρ, S, _, Xh, hσ, hS, h, fun d1 S1 v1 H1 q1 t1 r1 a1 => by
    cases d1 with
    | bl b =>
      refine ⟨b, r1.i_bl, ?_⟩
      cases b with
      | false => exact ⟨ρ, S1, Qh, Xh, hσ.mono t1, a1, q1, k.mono t1, x.mono t1⟩
      | true => exact (k.mono t1).now q1 (.bl true) a1
    | _ => exact q1.elim, x⟩
theorem d_not (ha : PE X a (low X.K W da)) : PE X (.UnaryOp .Not a pos) (low X.K W (dNotV da)) := pei (pe_not ha) fun σ H Q ⟨ρ, S, Qh, Xh, hσ, hS, h, k, x⟩ =>
  ⟨ρ, S, _, Xh, hσ, hS, h, fun d1 S1 v1 H1 q1 t1 r1 a1 => by
    cases d1 with
    | bl b => exact ⟨b, r1.i_bl, (k.mono t1).now q1 (.bl _) a1⟩
    | _ => exact q1.elim, x⟩
theorem d_ifExp (hc : PT X c (lowT X.K W ta)) (ha : PE X a (low X.K W da)) (hb : PE X b (low X.K W db)) : PE X (.IfExp c a b pos) (low X.K W (dIf ta da db)) := pei (pe_ifExp hc ha hb) fun σ H Q ⟨ρ, S, Qh, Xh, hσ, hS, h, k, x⟩ =>
  ⟨ρ, S, _, Xh, hσ, hS, h, fun b S1 H1 q1 t1 a1 => by
    cases b with
    | true => exact ⟨ρ, S1, Qh, Xh, hσ.mono t1, a1, q1, k.mono t1, x.mono t1⟩
    | false => exact ⟨ρ, S1, Qh, Xh, hσ.mono t1, a1, q1, k.mono t1, x.mono t1⟩, x⟩
def dAndT (t u : DT) : DT := fun ρ S Q X => t ρ S (fun b S1 => if b = true then u ρ S1 Q X else Q false S1) X
def dOrT (t u : DT) : DT := fun ρ S Q X => t ρ S (fun b S1 => if b = true then Q true S1 else u ρ S1 Q X) X
def dNotT (t : DT) : DT := fun ρ S Q X => t ρ S (fun b S1 => Q (!b) S1) X
theorem t_and1 (ha : PT X a (lowT X.K W ta)) : PW X (.BoolOp .And [a] pos) (lowT X.K W ta) := pw_and1 ha
theorem t_or1 (ha : PT X a (lowT X.K W ta)) : PW X (.BoolOp .Or [a] pos) (lowT X.K W ta) := pw_or1 ha
theorem t_and (ha : PT X a (lowT X.K W ta)) (hb : PW X (.BoolOp .And (b :: rest) pos) (lowT X.K W tb)) : PW X (.BoolOp .And (a :: b :: rest) pos) (lowT X.K W (dAndT ta tb)) := pwi (pw_and ha hb) fun σ H Q ⟨ρ, S, Qh, Xh, hσ, hS, h, k, x⟩ =>
  ⟨ρ, S, _, Xh, hσ, hS, h, fun b S1 H1 q1 t1 a1 => by
    cases b with
    | true => exact ⟨ρ, S1, Qh, Xh, hσ.mono t1, a1, q1, k.mono t1, x.mono t1⟩
    | false => exact k _ S1 H1 q1 t1 a1, x⟩
theorem t_or (ha : PT X a (lowT X.K W ta)) (hb : PW X (.BoolOp .Or (b :: rest) pos) (lowT X.K W tb)) : PW X (.BoolOp .Or (a :: b :: rest) pos) (lowT X.K W (dOrT ta tb)) := pwi (pw_or ha hb) fun σ H Q ⟨ρ, S, Qh, Xh, hσ, hS, h, k, x⟩ =>
  ⟨ρ, S, _, Xh, hσ, hS, h, fun b S1 H1 q1 t1 a1 => by
    cases b with
    | true => exact k _ S1 H1 q1 t1 a1
    | false => exact ⟨ρ, S1, Qh, Xh, hσ.mono t1, a1, q1, k.mono t1, x.mono t1⟩, x⟩
theorem t_not (ha : PT X a (lowT X.K W ta)) : PT X (.UnaryOp .Not a pos) (lowT X.K W (dNotT ta)) := pti (pt_not ha) fun σ H Q ⟨ρ, S, Qh, Xh, hσ, hS, h, k, x⟩ =>
  ⟨ρ, S, _, Xh, hσ, hS, h, fun b S1 H1 q1 t1 a1 => k _ S1 H1 q1 t1 a1, x⟩
theorem d_chain {op op' : CmpOp} {r r' : R2} {rd rd' : RD2} (ho : OpR X (compareOp op) r) (hl : LR2 X.K r rd) (ho' : OpR X (compareOp op') r') (hl' : LR2 X.K r' rd') (ha : PE X a (low X.K W da)) (hb : PE X b (low X.K W db)) (hc : PE X c (low X.K W dc))
    (hm : lastMarks [op, op'] [b, c] = false := by with_unfolding_all rfl) : PE X (.Compare a [op, op'] [b, c] pos) (low X.K W (dChain rd rd' da db dc)) :=
  pei (pe_chain ho ho' ha hb hc hm) fun σ H Q ⟨ρ, S, Qh, Xh, hσ, hS, h, k, x⟩ =>
  ⟨ρ, S, _, Xh, hσ, hS, h, fun d1 S1 v1 H1 q1 t1 r1 a1 => ⟨ρ, S1, _, Xh, hσ.mono t1, a1, q1, fun d2 S2 v2 H2 q2 t2 r2 a2 => hl v1 v2 H2 d1 d2 S2 _ _ (r1.mono t2) r2 a2 q2 fun d3 S3 v3 H3 q3 t3 r3 a3 => by
    cases d3 with
    | bl b =>
      refine ⟨b, r3.i_bl, ?_⟩
      cases b with
      | true =>
        refine iteT ⟨ρ, S3, _, Xh, hσ.mono ((t1.trans t2).trans t3), a3, q3, fun d4 S4 v4 H4 q4 t4 r4 a4 => hl' v2 v4 H4 d2 d4 S4 Qh Q (r2.mono (t3.trans t4)) r4 a4 q4 (k.mono (((t1.trans t2).trans t3).trans t4)), x.mono ((t1.trans t2).trans t3)⟩
      | false => exact iteF ((k.mono ((t1.trans t2).trans t3)).now q3 (.bl false) a3)
    | _ => exact q3.elim, x.mono t1⟩, x⟩
theorem t_chain {op op' : CmpOp} {r r' : R2} {rd rd' : RD2} (ho : OpR X (compareOp op) r) (hl : LR2 X.K r rd) (ho' : OpR X (compareOp op') r') (hl' : LR2 X.K r' rd') (ha : PE X a (low X.K W da)) (hb : PE X b (low X.K W db)) (hc : PE X c (low X.K W dc))
    (hm : lastMarks [op, op'] [b, c] = false := by with_unfolding_all rfl) : PT X (.Compare a [op, op'] [b, c] pos) (lowT X.K W (dTest (dChain rd rd' da db dc))) :=
  pti (pt_chain ho ho' ha hb hc hm) fun σ H Q h => by
  obtain ⟨ρ, S, Qh, Xh, hσ, hS, h, k, x⟩ := low_tB h
  exact ⟨ρ, S, _, Xh, hσ, hS, h, fun d1 S1 v1 H1 q1 t1 r1 a1 => ⟨ρ, S1, _, Xh, hσ.mono t1, a1, q1, fun d2 S2 v2 H2 q2 t2 r2 a2 => hl v1 v2 H2 d1 d2 S2 _ _ (r1.mono t2) r2 a2 q2 fun d3 S3 v3 H3 q3 t3 r3 a3 => by
    cases d3 with
    | bl b =>
      refine ⟨b, r3.i_bl, ?_⟩
      cases b with
      | true =>
        refine iteT ⟨ρ, S3, _, Xh, hσ.mono ((t1.trans t2).trans t3), a3, q3, fun d4 S4 v4 H4 q4 t4 r4 a4 => hl' v2 v4 H4 d2 d4 S4 Qh _ (r2.mono (t3.trans t4)) r4 a4 q4 (k.mono (((t1.trans t2).trans t3).trans t4)), x.mono ((t1.trans t2).trans t3)⟩
      | false =>
        exact iteF ((k.mono ((t1.trans t2).trans t3)).now q3 (.bl false) a3)
    | _ => exact q3.elim, x.mono t1⟩, x⟩
end
end VD

namespace VD
open PySem PySem.Spec PyProof.Rows L2

section
variable {K : PySem.W.Frag} {W : WX} {H H1 : Hp} {σ : L2.St} {ρ : Rho}
theorem LkS.lx {Dh : DEnds} {D : Ends} (k : LkS K W H Dh D) (hσ : RepS K H σ ρ) : Lx K W σ H (fun c da S => Dh.ex c da ρ S) := fun c da S' H' q t a => k.ex c da ρ S' σ H' q t (hσ.mono t) a
theorem LkS.nexts {Dh : DEnds} {D : Ends} (k : LkS K W H Dh D) {nh : Rho → Sto → Prop} {n : L2.St → Hp → Prop} (h : LkG K H nh n) : LkS K W H { Dh with nx := nh } { D with nx := n } := ⟨h, k.rt, k.bk, k.ct, k.ex⟩
theorem LkS.loop {Dh : DEnds} {D : Ends} (k : LkS K W H Dh D) {nh : Rho → Sto → Prop} {n : L2.St → Hp → Prop} (h : LkG K H nh n) : LkS K W H { Dh with nx := nh, ct := nh, bk := Dh.nx } { D with nx := n, ct := n, bk := D.nx } := ⟨h, k.rt, k.nx, h, k.ex⟩
theorem LkG.now {Qh : Rho → Sto → Prop} {Q : L2.St → Hp → Prop} (k : LkG K H Qh Q) {S : Sto} (q : Qh ρ S) (r : RepS K H σ ρ) (a : Abs K H S) : Q σ H := k ρ S σ H q (Tk.refl H) r a
end
/-- the ends of a statement as the wish of an expression -/
abbrev DEnds.xd (D : DEnds) (ρ : Rho) : XD := fun c da S => D.ex c da ρ S

section
variable {X : Cx} {W : WX} {st : Stmt} {rest sts body : List Stmt} {a b : DS} {e c : Expr} {de : DE} {dt : DT} {pos : Pos}
def dSeq (a b : DS) : DS := fun D ρ S => a { D with nx := b D } ρ S
def dNext : DS := fun D ρ S => D.nx ρ S
theorem s_nil : PSs X [] (lowS X.K W dNext) := pssi pss_nil fun D σ H ⟨ρ, S, Dh, hσ, hS, h, k⟩ => k.nx.now h hσ hS
theorem s_cons (h1 : PS X st (lowS X.K W a)) (h2 : PSs X rest (lowS X.K W b)) : PSs X (st :: rest) (lowS X.K W (dSeq a b)) := pssi (pss_cons h1 h2) fun D σ H ⟨ρ, S, Dh, hσ, hS, h, k⟩ =>
  ⟨ρ, S, { Dh with nx := b Dh }, hσ, hS, h, k.nexts fun ρ' S' σ' H' q t r a => ⟨ρ', S', Dh, r, a, q, k.mono t⟩⟩
theorem s_one (h1 : PS X st (lowS X.K W a)) : PSs X [st] (lowS X.K W a) := pss_one h1
theorem s_pass : PS X (.Pass pos) (lowS X.K W dNext) := psi ps_pass fun D σ H ⟨ρ, S, Dh, hσ, hS, h, k⟩ => k.nx.now h hσ hS
def dBreak : DS := fun D ρ S => D.bk ρ S
def dCont : DS := fun D ρ S => D.ct ρ S
theorem s_break : PS X (.Break pos) (lowS X.K W dBreak) := psi ps_break fun D σ H ⟨ρ, S, Dh, hσ, hS, h, k⟩ => k.bk.now h hσ hS
theorem s_cont : PS X (.Continue pos) (lowS X.K W dCont) := psi ps_continue fun D σ H ⟨ρ, S, Dh, hσ, hS, h, k⟩ => k.ct.now h hσ hS
def dDrop (de : DE) : DS := fun D ρ S => de ρ S (fun _ S1 => D.nx ρ S1) (D.xd ρ)
theorem s_expr (he : PE X e (low X.K W de)) (hs : swapsWith e none pos.line X.env = pure false := by rfl) : PS X (.Expr e pos) (lowS X.K W (dDrop de)) := psi (ps_expr he hs) fun D σ H ⟨ρ, S, Dh, hσ, hS, h, k⟩ =>
  ⟨ρ, S, _, _, hσ, hS, h, fun d S1 v H1 q t r a => k.nx ρ S1 σ H1 q t (hσ.mono t) a, k.lx hσ⟩
def dRet (de : DE) : DS := fun D ρ S => de ρ S D.rt (D.xd ρ)
theorem s_ret (he : PE X e (low X.K W de)) : PS X (.Return (some e) pos) (lowS X.K W (dRet de)) := psi (ps_ret he) fun D σ H ⟨ρ, S, Dh, hσ, hS, h, k⟩ => ⟨ρ, S, _, _, hσ, hS, h, k.rt, k.lx hσ⟩
def dRetN : DS := fun D _ S => D.rt .non S
theorem s_retN : PS X (.Return none pos) (lowS X.K W dRetN) := psi ps_retN fun D σ H ⟨ρ, S, Dh, hσ, hS, h, k⟩ => k.rt.now h .non hS
def dIfS (c : DT) (t u : DS) : DS := fun D ρ S => c ρ S (fun b S1 => if b = true then t D ρ S1 else u D ρ S1) (D.xd ρ)
theorem s_if {sa sb : List Stmt} (hc : PT X c (lowT X.K W dt)) (ha : PSs X sa (lowS X.K W a)) (hb : PSs X sb (lowS X.K W b)) : PS X (.If c sa sb pos) (lowS X.K W (dIfS dt a b)) := psi (ps_if hc ha hb) fun D σ H ⟨ρ, S, Dh, hσ, hS, h, k⟩ =>
  ⟨ρ, S, _, _, hσ, hS, h, fun bb S1 H1 q t aa => by
    cases bb with
    | true => exact ⟨ρ, S1, Dh, hσ.mono t, aa, q, k.mono t⟩
    | false => exact ⟨ρ, S1, Dh, hσ.mono t, aa, q, k.mono t⟩, k.lx hσ⟩
def dNever : DS := fun _ _ _ => False
theorem s_never : PS X st (lowS X.K W dNever) := psi ps_never fun D σ H ⟨ρ, S, Dh, hσ, hS, h, k⟩ => h.elim

/-! targets -/
abbrev DG := Dv → Rho → Sto → (Rho → Sto → Prop) → Prop
abbrev DGs := List Dv → Rho → Sto → (Rho → Sto → Prop) → Prop
def lowG (K : PySem.W.Frag) (g : DG) : TG := fun v σ H Q => ∃ d ρ S Qh, Rep K H v d ∧ RepS K H σ ρ ∧ Abs K H S ∧ g d ρ S Qh ∧ LkG K H Qh Q
def lowGs (K : PySem.W.Frag) (g : DGs) : TGs := fun vs σ H Q => ∃ ds ρ S Qh, RepL K H vs ds ∧ RepS K H σ ρ ∧ Abs K H S ∧ g ds ρ S Qh ∧ LkG K H Qh Q
def gN (i : Nat) : DG := fun d ρ S Q => Q (ρ.set i (some d)) S
def gNilD : DGs := fun ds ρ S Q => match ds with | [] => Q ρ S | _ => False
def gConsD (g : DG) (r : DGs) : DGs := fun ds ρ S Q => match ds with | d :: t => g d ρ S fun ρ' S' => r t ρ' S' Q | [] => False
def gT (n : Nat) (g : DGs) : DG := fun d ρ S Q => match d with | .tup ds => ds.length = n ∧ g ds ρ S Q | _ => False
variable {tg : Expr} {es : List Expr} {g : DG} {gs : DGs}
theorem pgi {t t' : TG} (h : PG X e t) (i : ∀ v σ H Q, t' v σ H Q → t v σ H Q) : PG X e t' := ⟨fun pins s σ H v u Q I r q => h.run pins s σ H v u Q I r (i v σ H Q q)⟩
theorem pgsi {t t' : TGs} (h : PGs X es t) (i : ∀ v σ H Q, t' v σ H Q → t v σ H Q) : PGs X es t' := ⟨fun pins s σ H v u Q I r q => h.run pins s σ H v u Q I r (i v σ H Q q)⟩
theorem g_name (i : Nat) {x : Str} (hN : X.N.Nodup) (hi : X.N[i]? = some x := by rfl) (hx : Loc X.env.scope x := by first | exact Or.inl rfl | exact Or.inr rfl) (hf : X.fn x = true ∨ X.env.scope.names.lookup x = some .local := by first | exact .inl rfl | exact .inr rfl | assumption) :
    PG X (.Name x pos) (lowG X.K (gN i)) := pgi (pg_name hN hi hx hf) fun v σ H Q ⟨d, ρ, S, Qh, r, hσ, hS, h, k⟩ => k.now h (hσ.set i r) hS
theorem g_nil : PGs X [] (lowGs X.K gNilD) := pgsi pgs_nil fun vs σ H Q ⟨ds, ρ, S, Qh, r, hσ, hS, h, k⟩ => by
  cases ds with
  | nil => exact ⟨r.nil_i, k.now h hσ hS⟩
  | cons d t => exact h.elim
theorem g_cons (h1 : PG X e (lowG X.K g)) (h2 : PGs X es (lowGs X.K gs)) (hs : (assignEach (e :: es) X.env).map (·.2) = assign e X.env :: (assignEach es X.env).map (·.2) := by rfl) : PGs X (e :: es) (lowGs X.K (gConsD g gs)) :=
  pgsi (pgs_cons h1 h2 hs) fun vs σ H Q ⟨ds, ρ, S, Qh, r, hσ, hS, h, k⟩ => by
  cases ds with
  | nil => exact h.elim
  | cons d t =>
    obtain ⟨v, r', rfl, rv, rr⟩ := r.cons_i
    exact ⟨v, r', rfl, d, ρ, S, _, rv, hσ, hS, h, fun ρ' S' σ' H' q tt rs aa => ⟨t, ρ', S', Qh, rr.mono tt, rs, aa, q, k.mono tt⟩⟩
theorem g_tup {kk : Nat} {n : Nat} (hc : X.calm = true) (h : PGs X es (lowGs X.K gs)) (hn : (assignEach es X.env).length = n := by rfl) (hst : (assignEach es X.env).findIdx? (·.1) = none := by rfl) : PG X (.Tuple es kk pos) (lowG X.K (gT n gs)) :=
  pgi (pg_tup hc h hn hst) fun v σ H Q ⟨d, ρ, S, Qh, r, hσ, hS, h, k⟩ => by
  cases d with
  | tup ds =>
    obtain ⟨p, xs, rfl, hq, rl⟩ := r.i_tup
    exact ⟨p, xs, rfl, hq, by rw [rl.length]; exact h.1, ds, ρ, S, Qh, rl, hσ, hS, h.2, k⟩
  | _ => exact h.elim
/-- o[i] = v -/
abbrev RDS := Dv → Dv → Dv → Sto → (Sto → Prop) → Prop
def LRS (K : PySem.W.Frag) (r : TSet) (rd : RDS) : Prop := ∀ o i v H dO dI d S (Qh : Sto → Prop) (Q : Hp → Prop), Rep K H o dO → Rep K H i dI → Rep K H v d → Abs K H S → rd dO dI d S Qh → (∀ S' H', Qh S' → Tk K H H' → Abs K H' S' → Q H') → r o i v H Q
def gSubD (rd : RDS) (dO di : DE) : DG := fun d ρ S Q => dO ρ S (fun o S1 => di ρ S1 (fun i S2 => rd o i d S2 fun S3 => Q ρ S3) X0) X0
theorem lx0 {K : PySem.W.Frag} {σ : L2.St} {H : Hp} : Lx K W σ H X0 := fun _ _ _ _ q => q.elim
theorem g_sub {o i : Expr} {dO di : DE} {r : TSet} {rd : RDS} (hs : PSet X r) (hl : LRS X.K r rd) (ho : PE X o (low X.K W dO)) (hi : PE X i (low X.K W di))
    (ha : ∀ v, assign (.Subscript o i pos) X.env v = (do
      let ov ← holding [v] (eval o X.env)
      let iv ← holding [v, ov] (eval i X.env)
      standAt pos
      holding [v, ov, iv] (setItem ov iv v)
      release [v, ov, iv] []) := by intro _; rfl) : PG X (.Subscript o i pos) (lowG X.K (gSubD rd dO di)) := pgi (pg_sub ho hi hs ha) fun v σ H Q ⟨d, ρ, S, Qh, r, hσ, hS, h, k⟩ =>
  ⟨ρ, S, _, X0, hσ, hS, h, fun d1 S1 v1 H1 q1 t1 r1 a1 => ⟨ρ, S1, _, X0, hσ.mono t1, a1, q1, fun d2 S2 v2 H2 q2 t2 r2 a2 => hl v1 v2 v H2 d1 d2 d S2 _ _ (r1.mono t2) r2 (r.mono (t1.trans t2)) a2 q2 fun S3 H3 q3 t3 a3 =>
    k ρ S3 σ H3 q3 ((t1.trans t2).trans t3) (hσ.mono ((t1.trans t2).trans t3)) a3, lx0⟩, lx0⟩
def dAsg (de : DE) (g : DG) : DS := fun D ρ S => de ρ S (fun d S1 => g d ρ S1 D.nx) (D.xd ρ)
theorem s_asg (he : PE X e (low X.K W de)) (hg : PG X tg (lowG X.K g)) (hs : swapsWithSole [tg] e pos.line X.env = pure false := by rfl) (hw : swappedStores [tg] e X.env = pure none := by rfl)
    (h1 : (assignEach [tg] X.env).map (·.2) = [assign tg X.env] := by rfl) : PS X (.Assign [tg] e pos) (lowS X.K W (dAsg de g)) := psi (ps_asg he hg hs hw h1) fun D σ H ⟨ρ, S, Dh, hσ, hS, h, k⟩ =>
  ⟨ρ, S, _, _, hσ, hS, h, fun d S1 v H1 q t r a => ⟨d, ρ, S1, _, r, hσ.mono t, a, q, k.nx.mono t⟩, k.lx hσ⟩
theorem s_set (i : Nat) {x : Str} {pos' : Pos} (hN : X.N.Nodup) (he : PE X e (low X.K W de)) (hi : X.N[i]? = some x := by rfl) (hx : Loc X.env.scope x := by first | exact Or.inl rfl | exact Or.inr rfl) (hs : swapsWith e (some (.Name x pos')) pos.line X.env = pure false := by rfl)
    (hf : X.fn x = true ∨ X.env.scope.names.lookup x = some .local := by first | exact .inl rfl | exact .inr rfl | assumption) : PS X (.Assign [.Name x pos'] e pos) (lowS X.K W (dAsg de (gN i))) := psi (ps_set hN hi hx he hs hf) fun D σ H ⟨ρ, S, Dh, hσ, hS, h, k⟩ =>
  ⟨ρ, S, _, _, hσ, hS, h, fun d S1 v H1 q t r a => k.nx _ S1 _ H1 q t ((hσ.mono t).set i r) a, k.lx hσ⟩
/-- a, b = x, y (both local names, no cells) -/
def dPar (i j : Nat) (das : DA) : DS := fun D ρ S => das ρ S (fun ds S1 => match ds with | [x, y] => D.nx ((ρ.set i (some x)).set j (some y)) S1 | _ => False) (D.xd ρ)
theorem s_par (i j : Nat) {x y : Str} {ea eb : Expr} {das : DA} {px py pt : Pos} {kt k2 pt2} (hc : X.calm = true) (hN : X.N.Nodup) (ha : PA X [ea, eb] (lowA X.K W das))
    (hw : swappedStores [.Tuple [.Name x px, .Name y py] kt pt] (.Tuple [ea, eb] k2 pt2) X.env = pure (some [x, y])) (hi : X.N[i]? = some x := by rfl) (hj : X.N[j]? = some y := by rfl) (hij : i ≠ j := by decide)
    (hx : X.env.scope.names.lookup x = some .local := by rfl) (hy : X.env.scope.names.lookup y = some .local := by rfl)
    (hs : swapsWithSole [.Tuple [.Name x px, .Name y py] kt pt] (.Tuple [ea, eb] k2 pt2) pos.line X.env = pure false := by rfl) :
    PS X (.Assign [.Tuple [.Name x px, .Name y py] kt pt] (.Tuple [ea, eb] k2 pt2) pos) (lowS X.K W (dPar i j das)) := psi (ps_par hc hN hi hj hij hx hy ha hw hs) fun D σ H ⟨ρ, S, Dh, hσ, hS, h, k⟩ =>
  ⟨ρ, S, _, _, hσ, hS, h, fun ds S1 vs H1 q t r a => by
    match ds, q, r with
    | [d1, d2], q, r =>
      obtain ⟨v1, r1, rfl, h1, r⟩ := r.cons_i
      obtain ⟨v2, r2, rfl, h2, r⟩ := r.cons_i
      rw [r.nil_i]
      exact ⟨v1, v2, rfl, k.nx _ S1 _ H1 q t (((hσ.mono t).set i h1).set j h2) a⟩
    | [], q, _ => exact q.elim
    | [_], q, _ => exact q.elim
    | _ :: _ :: _ :: _, q, _ => exact q.elim, k.lx hσ⟩
/-- x op= e -/
def dAug (i : Nat) (rd : RD2) (de : DE) : DS := fun D ρ S => ∃ x, ρ[i]? = some (some x) ∧ de ρ S (fun y S1 => rd x y S1 fun z S2 => D.nx (ρ.set i (some z)) S2) (D.xd ρ)
theorem s_aug (i : Nat) {x : Str} {op : Operator} {r : R2} {rd : RD2} {pos' : Pos} (hN : X.N.Nodup) (ho : OpR X (inplaceOp op) r) (hl : LR2 X.K r rd) (he : PE X e (low X.K W de)) (hi : X.N[i]? = some x := by rfl) (hx : Loc X.env.scope x := by first | exact Or.inl rfl | exact Or.inr rfl)
    (hf : X.fn x = true ∨ X.env.scope.names.lookup x = some .local := by first | exact .inl rfl | exact .inr rfl | assumption) : PS X (.AugAssign (.Name x pos') op e pos) (lowS X.K W (dAug i rd de)) :=
  psi (ps_aug (ti := r) hN hi hx he (fun pins s σ H x y v u Q I r1 r2 h => ho pins s σ H x y v u Q I r1 r2 h) hf) fun D σ H ⟨ρ, S, Dh, hσ, hS, ⟨x, ex, h⟩, k⟩ => by
  obtain ⟨v, ev, rv⟩ := hσ.at_ i x ex
  exact ⟨v, ev, ρ, S, _, _, hσ, hS, h, fun d S1 v1 H1 q t r1 a => hl v v1 H1 x d S1 _ _ (rv.mono t) r1 a q fun d2 S2 v2 H2 q2 t2 r2 a2 => k.nx _ S2 _ H2 q2 (t.trans t2) ((hσ.mono (t.trans t2)).set i r2) a2, k.lx hσ⟩
/-- o.f = e -/
def putFD (f : Str) (d : Dv) : List (Str × Dv) → List (Str × Dv)
  | [] => [(f, d)]
  | p :: r => if p.1 = f then (f, d) :: r else p :: putFD f d r
theorem repF_put {K : PySem.W.Frag} {H : Hp} {f : Str} {v : V} {d : Dv} (rv : Rep K H v d) : ∀ {gs : List (Str × V)} {fs : List (Str × Dv)}, RepF K H gs fs → RepF K H (L2.putF f v gs) (putFD f d fs)
  | _, _, .nil => .cons ⟨rfl, rv⟩ .nil
  | p :: gs, q :: fs, .cons ⟨e, r⟩ t => by
    unfold L2.putF putFD
    by_cases h : q.1 = f
    · rw [if_pos (e.trans h), if_pos h]
      exact .cons ⟨e.trans h, rv⟩ t
    · rw [if_neg (fun z => h (e.symm.trans z)), if_neg h]
      exact .cons ⟨e, r⟩ (repF_put rv t)
def dSetF (cs : List Addr) (f : Str) (dO de : DE) : DS := fun D ρ S => de ρ S (fun d S1 => dO ρ S1 (fun x S2 => match x with
  | .ref a => match S2 a with
    | some (.ins C dx fs) => C ∈ cs ∧ fs.length < 1000 ∧ D.nx ρ (put S2 a (.ins C dx (putFD f d fs)))
    | _ => False
  | _ => False) (D.xd ρ)) (D.xd ρ)
theorem repF_len {K : PySem.W.Frag} {H : Hp} {gs : List (Str × V)} {fs : List (Str × Dv)} (h : RepF K H gs fs) : gs.length = fs.length := by
  induction h with
  | nil => rfl
  | cons _ _ ih => exact congrArg (· + 1) ih
theorem s_setF {cs : List Addr} {f : Str} {o : Expr} {dO : DE} {pos' : Pos} (hc : ∀ C ∈ cs, Cls X.K C ∧ NoAttr X.K C f) (ho : PE X o (low X.K W dO)) (he : PE X e (low X.K W de)) (hs : swapsWith e (some (.Attribute o f pos')) pos.line X.env = pure false := by rfl) :
    PS X (.Assign [.Attribute o f pos'] e pos) (lowS X.K W (dSetF cs f dO de)) := psi (ps_fld ho he hs) fun D σ H ⟨ρ, S, Dh, hσ, hS, h, k⟩ =>
  ⟨ρ, S, _, _, hσ, hS, h, fun d1 S1 v1 H1 q1 t1 r1 a1 => ⟨ρ, S1, _, _, hσ.mono t1, a1, q1, fun x S2 w H2 q2 t2 r2 a2 => by
    dsimp only at q2
    split at q2
    · rename_i a
      split at q2
      · rename_i C dx fs ea
        obtain ⟨hm, hl, q⟩ := q2
        obtain ⟨gs, h1, h2⟩ := a2 _ _ ea
        obtain ⟨c, n⟩ := hc C hm
        have tw : Tk X.K H2 (upd H2 a (.ins C dx (L2.putF f v1 gs))) := Tk.write h1 wr_ins
        exact ⟨a, C, dx, gs, r2.i_ref, h1, c, n, by rw [repF_len h2]; exact hl, k.nx ρ _ σ _ q (t1.trans (t2.trans tw)) (hσ.mono (t1.trans (t2.trans tw))) (a2.write h1 wr_ins (.mins upd_same ((repF_put (r1.mono t2) h2).mono tw)))⟩
      · exact q2.elim
    · exact q2.elim, (k.mono t1).lx (hσ.mono t1)⟩, k.lx hσ⟩
end

/-! loops -/
abbrev DI := Rho → Sto → (List Dv → (Sto → Prop) → Sto → Prop) → XD → Prop
structure ItD (K : PySem.W.Frag) (H0 : Hp) (J : It) (items : List Dv) (stay : Sto → Prop) : Prop where
  go : ∀ i H S x, Tk K H0 H → Abs K H S → stay S → items[i]? = some x → J.go i H ∧ ∀ v H', J.yld i H v H' → Tk K H H' ∧ Rep K H' v x ∧ Abs K H' S
  stop : ∀ H S, Tk K H0 H → Abs K H S → stay S → J.stop items.length H
def LkI (K : PySem.W.Frag) (H : Hp) (Rh : List Dv → (Sto → Prop) → Sto → Prop) (R : It → Hp → Prop) : Prop := ∀ items stay S' J H', Rh items stay S' → Tk K H H' → Abs K H' S' → ItD K H' J items stay → R J H'
theorem LkI.mono {K : PySem.W.Frag} {H H1 : Hp} {Rh : List Dv → (Sto → Prop) → Sto → Prop} {R : It → Hp → Prop} (k : LkI K H Rh R) (t : Tk K H H1) : LkI K H1 Rh R := fun i s S J H' q t' => k i s S J H' q (t.trans t')
def lowI (K : PySem.W.Frag) (W : WX) (di : DI) : TI := fun σ H R => ∃ ρ S Rh Xh, RepS K H σ ρ ∧ Abs K H S ∧ di ρ S Rh Xh ∧ LkI K H Rh R ∧ Lx K W σ H Xh
def ForGo (g : DG) (tb : DS) (D : DEnds) (ρ : Rho) (items : List Dv) (stay : Sto → Prop) (S1 : Sto) : Prop := ∃ Wv : Nat → Rho → Sto → Prop, Wv 0 ρ S1 ∧ (∀ i ρ S, i ≤ items.length → Wv i ρ S → stay S) ∧
  (∀ i x ρ S, items[i]? = some x → Wv i ρ S → g x ρ S fun ρ2 S2 => tb { D with nx := Wv (i + 1), ct := Wv (i + 1), bk := D.nx } ρ2 S2) ∧ ∀ ρ S, Wv items.length ρ S → D.nx ρ S
def dFor (di : DI) (g : DG) (tb : DS) : DS := fun D ρ S => di ρ S (fun items stay S1 => ForGo g tb D ρ items stay S1) (D.xd ρ)
section
variable {X : Cx} {W : WX} {tg iter c : Expr} {body : List Stmt} {di : DI} {g : DG} {tb : DS} {dt : DT} {pos : Pos}
theorem s_for (hp : PassesOwn (model X.prog X.w) X.A X.env X.xe) (hc : X.calm = true) (hi : PI X tg iter (lowI X.K W di)) (hg : PG X tg (lowG X.K g)) (hb : PSs X body (lowS X.K W tb))
    (hs : ∀ x, foldedSetIterable iter X.env x = pure x := by intro _; rfl) : PS X (.For tg iter body [] pos) (lowS X.K W (dFor di g tb)) := psi (ps_for hp hc hi hg hb hs) fun D σ H ⟨ρ, S, Dh, hσ, hS, h, k⟩ => by
  refine ⟨ρ, S, _, _, hσ, hS, h, fun items stay S1 J H1 q t1 a1 it => ?_, k.lx hσ⟩
  obtain ⟨Wv, w0, st, step, done⟩ := q
  refine ⟨fun i m σ' H' => m = items.length - i ∧ i ≤ items.length ∧ Tk X.K H1 H' ∧ ∃ ρ' S', RepS X.K H' σ' ρ' ∧ Abs X.K H' S' ∧ Wv i ρ' S', ⟨_, rfl, Nat.zero_le _, Tk.refl _, ρ, S1, hσ.mono t1, a1, w0⟩, ?_⟩
  rintro i m σ' H' ⟨rfl, hi, t2, ρ', S', hσ', a2, w⟩
  by_cases hlt : i < items.length
  · obtain ⟨g1, g2⟩ := it.go i H' S' items[i] t2 a2 (st i ρ' S' hi w) (by simp [hlt])
    refine .inr ⟨g1, fun σ' H' => Tk X.K H1 H' ∧ ∃ ρ' S', RepS X.K H' σ' ρ' ∧ Abs X.K H' S' ∧ Wv (i + 1) ρ' S', fun σ3 H3 ⟨t3, z⟩ => ⟨items.length - (i + 1), by omega, rfl, hlt, t3, z⟩, fun x H3 y => ?_⟩
    obtain ⟨t3, r3, a3⟩ := g2 x H3 y
    refine ⟨items[i], ρ', S', _, r3, hσ'.mono t3, a3, step i _ ρ' S' (by simp [hlt]) w, fun ρ4 S4 σ4 H4 q4 t4 r4 a4 => ⟨ρ4, S4, _, r4, a4, q4, ((((k.mono t1).mono t2).mono t3).mono t4).loop ?_⟩⟩
    exact fun ρ5 S5 σ5 H5 q5 t5 r5 a5 => ⟨((t2.trans t3).trans t4).trans t5, ρ5, S5, r5, a5, q5⟩
  · have e : i = items.length := by omega
    subst e
    exact .inl ⟨it.stop H' S' t2 a2 (st _ ρ' S' hi w), k.nx ρ' S' σ' H' (done ρ' S' w) (t1.trans t2) hσ' a2⟩
def dWhile (c : DT) (tb : DS) : DS := fun D ρ S => ∃ Wv : Nat → Rho → Sto → Prop, (∃ m, Wv m ρ S) ∧ ∀ m ρ S, Wv m ρ S →
  c ρ S (fun b S1 => if b = true then tb { D with nx := fun ρ' S' => ∃ m', m' < m ∧ Wv m' ρ' S', ct := fun ρ' S' => ∃ m', m' < m ∧ Wv m' ρ' S', bk := D.nx } ρ S1 else D.nx ρ S1) (D.xd ρ)
theorem s_while (hp : PassesOwn (model X.prog X.w) X.A X.env X.xe) (hc : PT X c (lowT X.K W dt)) (hb : PSs X body (lowS X.K W tb)) : PS X (.While c body [] pos) (lowS X.K W (dWhile dt tb)) := psi (ps_while hp hc hb) fun D σ H ⟨ρ, S, Dh, hσ, hS, h, k⟩ => by
  obtain ⟨Wv, ⟨m0, w0⟩, step⟩ := h
  refine ⟨fun m σ' H' => Tk X.K H H' ∧ ∃ ρ' S', RepS X.K H' σ' ρ' ∧ Abs X.K H' S' ∧ Wv m ρ' S', ⟨m0, Tk.refl _, ρ, S, hσ, hS, w0⟩, ?_⟩
  rintro m σ' H' ⟨t, ρ', S', hσ', a', w⟩
  refine ⟨ρ', S', _, _, hσ', a', step m ρ' S' w, fun b S1 H1 q t1 a1 => ?_, (k.mono t).lx hσ'⟩
  cases b with
  | true =>
    refine iteT ⟨fun σ2 H2 => Tk X.K H H2 ∧ ∃ m', m' < m ∧ ∃ ρ' S', RepS X.K H2 σ2 ρ' ∧ Abs X.K H2 S' ∧ Wv m' ρ' S', fun σ2 H2 ⟨t2, m', lt, z⟩ => ⟨m', lt, t2, z⟩, ρ', S1, _, hσ'.mono t1, a1, q, ((k.mono t).mono t1).loop ?_⟩
    exact fun ρ5 S5 σ5 H5 ⟨m', lt, q5⟩ t5 r5 a5 => ⟨(t.trans t1).trans t5, m', lt, ρ5, S5, r5, a5, q5⟩
  | false => exact iteF ((k.mono t).nx ρ' S1 σ' H1 q t1 (hσ'.mono t1) a1)

/-! what is walked -/
theorem pii {wi wi' : TI} (h : PI X tg iter wi) (i : ∀ σ H R, wi' σ H R → wi σ H R) : PI X tg iter wi' := ⟨fun pins s σ H R I q => h.run pins s σ H R I (i σ H R q)⟩
/-- over a list or a tuple -/
def iSeq (de : DE) : DI := fun ρ S R X => de ρ S (fun d S1 => match d with
  | .tup ds => R ds (fun _ => True) S1
  | .rol ds => R ds (fun _ => True) S1
  | .ref a => ∃ ds, S1 a = some (.lst ds) ∧ R ds (fun S => S a = some (.lst ds)) S1
  | _ => False) X
theorem sqT_inj {K : PySem.W.Frag} {H : Hp} {a : Addr} {xs ys : List V} {I : Prop} (h : SqT K H a xs) (hx : ∀ zs, SqT K H a zs → zs = xs) (g : SqT K H a ys) : ys = xs := hx ys g
/-- the tuple at a, walked -/
theorem it_tup {K : PySem.W.Frag} {H0 : Hp} {a : Addr} {xs : List V} {ds : List Dv} (h : SqT K H0 a xs) (r : RepL K H0 xs ds) : ItD K H0 (Itt K a) ds (fun _ => True) := by
  refine ⟨fun i H S x t ha _ hx => ?_, fun H S t ha _ => ⟨xs, t.t _ _ h, by rw [r.length]; exact Nat.le_refl _⟩⟩
  obtain ⟨v, hv, rv⟩ := r.get hx
  refine ⟨⟨xs, v, t.t _ _ h, hv⟩, fun v' H' ⟨e, y⟩ => ?_⟩
  subst e
  have e2 := y xs (t.t _ _ h)
  rw [hv] at e2
  cases e2
  exact ⟨Tk.refl _, rv.mono t, ha⟩
theorem it_rol {K : PySem.W.Frag} {H0 : Hp} {a : Addr} {xs : List V} {ds : List Dv} (h : CL K H0 a xs) (r : RepL K H0 xs ds) : ItD K H0 (Itl K a) ds (fun _ => True) := by
  refine ⟨fun i H S x t ha _ hx => ?_, fun H S t ha _ => ⟨xs, (t.c _ _ h).sq, by rw [r.length]; exact Nat.le_refl _⟩⟩
  obtain ⟨v, hv, rv⟩ := r.get hx
  refine ⟨⟨xs, v, (t.c _ _ h).sq, hv⟩, fun v' H' ⟨e, y⟩ => ?_⟩
  subst e
  have e2 := y xs (t.c _ _ h).sq
  rw [hv] at e2
  cases e2
  exact ⟨Tk.refl _, rv.mono t, ha⟩
theorem it_lst {K : PySem.W.Frag} {H0 : Hp} {a : Addr} {ds : List Dv} : ItD K H0 (Itl K a) ds (fun S => S a = some (.lst ds)) := by
  refine ⟨fun i H S x t ha st hx => ?_, fun H S t ha st => ?_⟩
  · obtain ⟨xs, h1, h2⟩ := ha a _ st
    obtain ⟨v, hv, rv⟩ := h2.get hx
    refine ⟨⟨xs, v, .inl (.inl h1), hv⟩, fun v' H' ⟨e, y⟩ => ?_⟩
    subst e
    have e2 := y xs (.inl (.inl h1))
    rw [hv] at e2
    cases e2
    exact ⟨Tk.refl _, rv, ha⟩
  · obtain ⟨xs, h1, h2⟩ := ha a _ st
    exact ⟨xs, .inl (.inl h1), by rw [h2.length]; exact Nat.le_refl _⟩
def iTupD (de : DE) : DI := fun ρ S R X => de ρ S (fun d S1 => match d with | .tup ds => R ds (fun _ => True) S1 | _ => False) X
theorem i_tup {e : Expr} {de : DE} (he : PE X e (low X.K W de)) : PI X tg e (lowI X.K W (iTupD de)) := pii (pi_tup he) fun σ H R ⟨ρ, S, Rh, Xh, hσ, hS, h, k, x⟩ =>
  ⟨ρ, S, _, Xh, hσ, hS, h, fun d S1 v H1 q t r a => by
    cases d with
    | tup ds =>
      obtain ⟨p, xs, rfl, hq, rl⟩ := r.i_tup
      exact ⟨p, rfl, ⟨xs, hq⟩, k ds _ S1 _ H1 q t a (it_tup hq rl)⟩
    | _ => exact q.elim, x⟩
def iLstD (de : DE) : DI := fun ρ S R X => de ρ S (fun d S1 => match d with
  | .rol ds => R ds (fun _ => True) S1
  | .ref a => match S1 a with | some (.lst ds) => R ds (fun S => S a = some (.lst ds)) S1 | _ => False
  | _ => False) X
theorem i_lst {e : Expr} {de : DE} (he : PE X e (low X.K W de)) : PI X tg e (lowI X.K W (iLstD de)) := pii (pi_list he) fun σ H R ⟨ρ, S, Rh, Xh, hσ, hS, h, k, x⟩ =>
  ⟨ρ, S, _, Xh, hσ, hS, h, fun d S1 v H1 q t r a => by
    cases d with
    | rol ds =>
      obtain ⟨p, xs, rfl, hq, rl⟩ := r.i_rol
      exact ⟨p, rfl, ⟨xs, hq.sq⟩, k ds _ S1 _ H1 q t a (it_rol hq rl)⟩
    | ref p =>
      have q : (match S1 p with | some (.lst ds) => Rh ds (fun S => S p = some (.lst ds)) S1 | _ => False) := q
      cases e : S1 p with
      | none => rw [e] at q; exact q.elim
      | some m =>
        rw [e] at q
        cases m with
        | lst ds =>
          obtain ⟨xs, h1, h2⟩ := a p _ e
          exact ⟨p, r.i_ref, ⟨xs, .inl (.inl h1)⟩, k ds _ S1 _ H1 q t a it_lst⟩
        | _ => exact q.elim
    | _ => exact q.elim, x⟩
/-- over a list, a tuple, a text: by the value -/
def iSeqD (de : DE) : DI := fun ρ S R X => de ρ S (fun d S1 => match d with
  | .tup ds => R ds (fun _ => True) S1
  | .rol ds => R ds (fun _ => True) S1
  | .ref a => match S1 a with | some (.lst ds) => R ds (fun S => S a = some (.lst ds)) S1 | _ => False
  | _ => False) X
theorem i_seq {e : Expr} {de : DE} (he : PE X e (low X.K W de)) : PI X tg e (lowI X.K W (iSeqD de)) := by
  refine ⟨fun pins s σ H R I ⟨ρ, S, Rh, Xh, hσ, hS, h, k, x⟩ => ?_⟩
  have lst : ∀ {a : Addr} {xs : List V} {H1 : Hp} {s1 : Shared}, Inv X pins σ H1 s1 → SqL X.K H1 a xs → R (Itl X.K a) H1 → wpAny (model X.prog X.w) X.A (pyIter (.ref a)) (PIE X pins σ tg R) X.xe s1 := by
    intro a xs H1 s1 I1 hq q
    obtain ⟨its, rv, p, hz⟩ := I1.list hq
    refine wpAny_pyIter_list p.isList ?_
    refine ⟨s1.heap.objs.size, [s1.heap.objs.size], _, _, H1, rfl, I1.kept (t' := s1.toks) fun b o e => Heap.get?_push_of_some _ e, turn_list a _, ⟨_, Heap.get?_push_size _ rfl, rfl, rfl⟩, fun b hb => ?_, q⟩
    have e : b = s1.heap.objs.size := by simpa using hb
    subst e
    exact I1.fpOk (Nat.le_refl _) (I1.hok.fresh (Nat.le_refl _))
  have tup : ∀ {a : Addr} {xs : List V} {H1 : Hp} {s1 : Shared}, Inv X pins σ H1 s1 → SqT X.K H1 a xs → R (Itt X.K a) H1 → wpAny (model X.prog X.w) X.A (pyIter (.ref a)) (PIE X pins σ tg R) X.xe s1 := by
    intro a xs H1 s1 I1 hq q
    obtain ⟨its, rv, p, hz⟩ := I1.tuple hq
    refine wpAny_pyIter_tuple (show s1.heap.IsTuple a its.toArray from p) ?_
    refine ⟨s1.heap.objs.size, [s1.heap.objs.size], _, _, H1, rfl, I1.kept (t' := s1.toks) fun b o e => Heap.get?_push_of_some _ e, turn_tuple a _, ⟨_, Heap.get?_push_size _ rfl, rfl, rfl⟩, fun b hb => ?_, q⟩
    have e : b = s1.heap.objs.size := by simpa using hb
    subst e
    exact I1.fpOk (Nat.le_refl _) (I1.hok.fresh (Nat.le_refl _))
  refine thn (he.run pins s σ H (fun v H1 => ∃ a, v = .ref a ∧ ((∃ xs, SqL X.K H1 a xs ∧ R (Itl X.K a) H1) ∨ (∃ xs, SqT X.K H1 a xs ∧ R (Itt X.K a) H1))) I ⟨ρ, S, _, Xh, hσ, hS, h, fun d S1 v H1 q t r a => ?_, x⟩) fun v s1 ⟨y, H1, I1, r1, a, e, q1⟩ => ?_
  · cases d with
    | tup ds =>
      obtain ⟨p, xs, rfl, hq, rl⟩ := r.i_tup
      exact ⟨p, rfl, .inr ⟨xs, hq, k ds _ S1 _ H1 q t a (it_tup hq rl)⟩⟩
    | rol ds =>
      obtain ⟨p, xs, rfl, hq, rl⟩ := r.i_rol
      exact ⟨p, rfl, .inl ⟨xs, hq.sq, k ds _ S1 _ H1 q t a (it_rol hq rl)⟩⟩
    | ref p =>
      have q : (match S1 p with | some (.lst ds) => Rh ds (fun S => S p = some (.lst ds)) S1 | _ => False) := q
      cases e : S1 p with
      | none => rw [e] at q; exact q.elim
      | some m =>
        rw [e] at q
        cases m with
        | lst ds =>
          obtain ⟨xs, h1, h2⟩ := a p _ e
          exact ⟨p, r.i_ref, .inl ⟨xs, .inl (.inl h1), k ds _ S1 _ H1 q t a it_lst⟩⟩
        | _ => exact q.elim
    | _ => exact q.elim
  · subst e
    cases r1
    rcases q1 with ⟨xs, hq, q⟩ | ⟨xs, hq, q⟩
    · exact lst I1 hq q
    · exact tup I1 hq q
/-- range(n), range(a, b), range(a, b, c) -/
def rangeL (lo : Int) (n : Nat) (c : Int) : List Dv := (List.range n).map fun (i : Nat) => Dv.int (lo + (i : Int) * c)
theorem rangeL_get {lo c : Int} {n i : Nat} {x : Dv} (h : (rangeL lo n c)[i]? = some x) : i < n ∧ x = .int (lo + (i : Int) * c) := by
  unfold rangeL at h
  rw [List.getElem?_map, Option.map_eq_some_iff] at h
  obtain ⟨j, h1, h2⟩ := h
  rw [List.getElem?_eq_some_iff] at h1
  obtain ⟨h3, h4⟩ := h1
  rw [List.getElem_range] at h4
  subst h4
  exact ⟨by simpa using h3, h2.symm⟩
theorem rangeL_len {lo c : Int} {n : Nat} : (rangeL lo n c).length = n := by unfold rangeL; simp
theorem it_rng {K : PySem.W.Frag} {H0 : Hp} {lo : Int} {n : Nat} : ItD K H0 (Itr lo n) (rangeL lo n 1) (fun _ => True) := by
  refine ⟨fun i H S x t ha st hx => ?_, fun H S t ha st => by rw [rangeL_len]; exact Nat.le_refl _⟩
  obtain ⟨h1, rfl⟩ := rangeL_get hx
  refine ⟨h1, fun v' H' ⟨e, y⟩ => ?_⟩
  subst e y
  exact ⟨Tk.refl _, by rw [Int.mul_one]; exact .int _, ha⟩
theorem it_rngC {K : PySem.W.Frag} {H0 : Hp} {lo c : Int} {n : Nat} : ItD K H0 (Itc lo c n) (rangeL lo n c) (fun _ => True) := by
  refine ⟨fun i H S x t ha st hx => ?_, fun H S t ha st => by rw [rangeL_len]; exact Nat.le_refl _⟩
  obtain ⟨h1, rfl⟩ := rangeL_get hx
  refine ⟨h1, fun v' H' ⟨e, y⟩ => ?_⟩
  subst e y
  exact ⟨Tk.refl _, .int _, ha⟩
def iR1 (das : DA) : DI := fun ρ S R X => das ρ S (fun ds S1 => match ds with | [.int j] => R (rangeL 0 j.toNat 1) (fun _ => True) S1 | _ => False) X
def iR2 (das : DA) : DI := fun ρ S R X => das ρ S (fun ds S1 => match ds with | [.int i, .int j] => R (rangeL i (j - i).toNat 1) (fun _ => True) S1 | _ => False) X
def iR3 (das : DA) : DI := fun ρ S R X => das ρ S (fun ds S1 => match ds with | [.int i, .int j, .int c] => ∃ n, RgC i j c n ∧ R (rangeL i n c) (fun _ => True) S1 | _ => False) X
theorem i_r1 {a : Expr} {p : Pos} {das : DA} (hm : X.mg "range" = none) (ha : PA X [a] (lowA X.K W das)) (hg : Gl X "range" := by rfl) (hs : starEach [a] X.env = [(false, eval a X.env)] := by rfl) : PI X tg (.Call (.Name "range" p) [a] [] pos) (lowI X.K W (iR1 das)) :=
  pii (pi_rangeA1 hg hm ha hs) fun σ H R ⟨ρ, S, Rh, Xh, hσ, hS, h, k, x⟩ => ⟨ρ, S, _, Xh, hσ, hS, h, fun ds S1 vs H1 q t r a => by
    match ds, q, r with
    | [.int j], q, r =>
      obtain ⟨v1, r1, rfl, h1, r⟩ := r.cons_i
      rw [r.nil_i, h1.i_int]
      exact ⟨j, rfl, k _ _ S1 _ H1 q t a it_rng⟩, x⟩
theorem i_r2 {a b : Expr} {p : Pos} {das : DA} (hm : X.mg "range" = none) (ha : PA X [a, b] (lowA X.K W das)) (hg : Gl X "range" := by rfl) (hs : starEach [a, b] X.env = [(false, eval a X.env), (false, eval b X.env)] := by rfl) (hs2 : starEach [b] X.env = [(false, eval b X.env)] := by rfl) :
    PI X tg (.Call (.Name "range" p) [a, b] [] pos) (lowI X.K W (iR2 das)) :=
  pii (pi_rangeA2 hg hm ha hs hs2) fun σ H R ⟨ρ, S, Rh, Xh, hσ, hS, h, k, x⟩ => ⟨ρ, S, _, Xh, hσ, hS, h, fun ds S1 vs H1 q t r a => by
    match ds, q, r with
    | [.int i, .int j], q, r =>
      obtain ⟨v1, r1, rfl, h1, r⟩ := r.cons_i
      obtain ⟨v2, r2, rfl, h2, r⟩ := r.cons_i
      rw [r.nil_i, h1.i_int, h2.i_int]
      exact ⟨i, j, rfl, k _ _ S1 _ H1 q t a it_rng⟩, x⟩
theorem i_r3 {a b c : Expr} {p : Pos} {das : DA} (hm : X.mg "range" = none) (ha : PA X [a, b, c] (lowA X.K W das)) (hg : Gl X "range" := by rfl) (h0 : starEach [a, b, c] X.env = (false, eval a X.env) :: starEach [b, c] X.env := by rfl) (h1 : (backTo pos (starEach [b, c] X.env)).any (·.1) = false := by rfl) :
    PI X tg (.Call (.Name "range" p) [a, b, c] [] pos) (lowI X.K W (iR3 das)) :=
  pii (pi_range3 hg hm ha h0 h1) fun σ H R ⟨ρ, S, Rh, Xh, hσ, hS, h, k, x⟩ => ⟨ρ, S, _, Xh, hσ, hS, h, fun ds S1 vs H1 q t r a => by
    match ds, q, r with
    | [.int i, .int j, .int c], q, r =>
      obtain ⟨v1, r1, rfl, h1, r⟩ := r.cons_i
      obtain ⟨v2, r2, rfl, h2, r⟩ := r.cons_i
      obtain ⟨v3, r3, rfl, h3, r⟩ := r.cons_i
      rw [r.nil_i, h1.i_int, h2.i_int, h3.i_int]
      obtain ⟨n, g, q⟩ := q
      exact ⟨i, j, c, n, rfl, g, k _ _ S1 _ H1 q t a it_rngC⟩, x⟩
def iStrD (de : DE) : DI := fun ρ S R X => de ρ S (fun d S1 => match d with | .str x => R (x.cps.toList.map fun c => Dv.str ⟨#[c]⟩) (fun _ => True) S1 | _ => False) X
theorem i_str {e : Expr} {de : DE} (he : PE X e (low X.K W de)) : PI X tg e (lowI X.K W (iStrD de)) := pii (pi_str he) fun σ H R ⟨ρ, S, Rh, Xh, hσ, hS, h, k, x⟩ =>
  ⟨ρ, S, _, Xh, hσ, hS, h, fun d S1 v H1 q t r a => by
    cases d with
    | str z =>
      refine ⟨z, r.i_str, k _ _ S1 _ H1 q t a ⟨fun i H S x t ha st hx => ?_, fun H S t ha st => by simp [Its]⟩⟩
      rw [List.getElem?_map, Option.map_eq_some_iff] at hx
      obtain ⟨c, h1, rfl⟩ := hx
      rw [Array.getElem?_toList] at h1
      refine ⟨(Array.getElem?_eq_some_iff.mp h1).1, fun v' H' ⟨e, c', h2, e2⟩ => ?_⟩
      subst e e2
      rw [h1] at h2
      cases h2
      exact ⟨Tk.refl _, .str _, ha⟩
    | _ => exact q.elim, x⟩
end

/-! comprehensions -/
/-- a target of names alone, put back behind -/
def NG (K : PySem.W.Frag) (g : TG) (dg : DG) (vs : List Nat) : Prop := ∀ v d σ H ρ S Qh (Q : L2.St → Hp → Prop), Rep K H v d → RepS K H σ ρ → Abs K H S → dg d ρ S Qh → (∀ ρ' S' σ' H', Qh ρ' S' → Tk K H H' → RepS K H' σ' ρ' → Abs K H' S' → L2.wipe σ' vs = L2.wipe σ vs → Q σ' H') → g v σ H Q
def NGs (K : PySem.W.Frag) (g : TGs) (dg : DGs) (vs : List Nat) : Prop := ∀ xs ds σ H ρ S Qh (Q : L2.St → Hp → Prop), RepL K H xs ds → RepS K H σ ρ → Abs K H S → dg ds ρ S Qh → (∀ ρ' S' σ' H', Qh ρ' S' → Tk K H H' → RepS K H' σ' ρ' → Abs K H' S' → L2.wipe σ' vs = L2.wipe σ vs → Q σ' H') → g xs σ H Q
theorem wipe_set (σ : L2.St) (i : Nat) (x : Option V) : ∀ vs : List Nat, i ∈ vs → L2.wipe (σ.set i x) vs = L2.wipe σ vs
  | [], h => by cases h
  | v :: vs, h => by
    have wc : ∀ (l : List Nat) (τ : L2.St), L2.wipe (τ.set i x) l = if i ∈ l then L2.wipe τ l else (L2.wipe τ l).set i x := by
      intro l
      induction l with
      | nil => intro τ; simp [L2.wipe]
      | cons w l ih =>
        intro τ
        unfold L2.wipe
        rw [ih τ]
        by_cases hm : i ∈ l
        · simp [hm]
        · by_cases hw : i = w
          · subst hw; simp [hm, List.set_set]
          · simp [hm, hw, List.set_comm _ _ hw]
    rw [wc (v :: vs) σ, if_pos h]
theorem ng_name {K : PySem.W.Frag} {i : Nat} {vs : List Nat} (h : i ∈ vs) : NG K (gName i) (gN i) vs := fun v d σ H ρ S Qh Q r hσ hS q k => k _ S _ H q (Tk.refl H) (hσ.set i r) hS (wipe_set σ i _ vs h)
theorem ngs_nil {K : PySem.W.Frag} {vs : List Nat} : NGs K gNil gNilD vs := fun xs ds σ H ρ S Qh Q r hσ hS q k => by
  cases ds with
  | nil => exact ⟨r.nil_i, k _ S _ H q (Tk.refl H) hσ hS rfl⟩
  | cons d t => exact q.elim
theorem ngs_cons {K : PySem.W.Frag} {vs : List Nat} {g : TG} {dg : DG} {gs : TGs} {dgs : DGs} (h : NG K g dg vs) (hs : NGs K gs dgs vs) : NGs K (gCons g gs) (gConsD dg dgs) vs := fun xs ds σ H ρ S Qh Q r hσ hS q k => by
  cases ds with
  | nil => exact q.elim
  | cons d t =>
    obtain ⟨v, r', rfl, rv, rr⟩ := r.cons_i
    refine ⟨v, r', rfl, h v d σ H ρ S _ _ rv hσ hS q fun ρ1 S1 σ1 H1 q1 t1 r1 a1 e1 => hs r' t σ1 H1 ρ1 S1 Qh Q (rr.mono t1) r1 a1 q1 fun ρ2 S2 σ2 H2 q2 t2 r2 a2 e2 => k ρ2 S2 σ2 H2 q2 (t1.trans t2) r2 a2 (e2.trans e1)⟩
theorem ng_tup {K : PySem.W.Frag} {vs : List Nat} {gs : TGs} {dgs : DGs} {n : Nat} (hs : NGs K gs dgs vs) : NG K (gTup K n gs) (gT n dgs) vs := fun v d σ H ρ S Qh Q r hσ hS q k => by
  cases d with
  | tup ds =>
    obtain ⟨p, xs, rfl, hq, rl⟩ := r.i_tup
    exact ⟨p, xs, rfl, hq, by rw [rl.length]; exact q.1, hs xs ds σ H ρ S Qh Q rl hσ hS q.2 k⟩
  | _ => exact q.elim
def dYes : DT := fun _ S Q _ => Q true S
theorem c_nil {X : Cx} {W : WX} : PTs X [] (lowT X.K W dYes) := ⟨fun pins s σ H Q I ⟨ρ, S, Qh, Xh, hσ, hS, h, k, x⟩ => pts_nil.run pins s σ H Q I (k true S H h (Tk.refl H) hS)⟩
theorem c_one {X : Cx} {W : WX} {c : Expr} {dt : DT} (h : PT X c (lowT X.K W dt)) : PTs X [c] (lowT X.K W dt) := pts_one h
def LcGo (g : DG) (tt : DT) (te : DE) (vs : List Nat) (ρ : Rho) (Q : QD) (items : List Dv) (stay : Sto → Prop) (S1 : Sto) : Prop := ∀ p, S1 p = none → ∃ Wv : Nat → Sto → Prop, Wv 0 (put S1 p (.lst [])) ∧ (∀ i S, i ≤ items.length → Wv i S → stay S) ∧
  (∀ i x S, items[i]? = some x → Wv i S → g x (wipeD ρ vs) S fun ρ2 S2 => tt ρ2 S2 (fun b S3 => if b = true then te ρ2 S3 (fun y S4 => ∃ acc, S4 p = some (.lst acc) ∧ acc.length < sizeLine ∧ Wv (i + 1) (put S4 p (.lst (acc ++ [y])))) X0 else Wv (i + 1) S3) X0) ∧
  ∀ S, Wv items.length S → Q (.ref p) S
def dLc (di : DI) (g : DG) (tt : DT) (te : DE) (vs : List Nat) : DE := fun ρ S Q X => di ρ S (fun items stay S1 => LcGo g tt te vs ρ Q items stay S1) X
section
variable {X : Cx} {W : WX} {tg iter elt : Expr} {ifs : List Expr} {di : DI} {g : TG} {dg : DG} {dt : DT} {de : DE} {scope : Scope} {own : List (Str × Nat)} {pos spos : Pos}
theorem low_lc {K : PySem.W.Frag} {vs : List Nat} (ng : NG K g dg vs) : ∀ σ H Q, low K W (dLc di dg dt de vs) σ H Q → tLc (lowI K W di) g (lowT K W0 dt) (low K W0 de) vs σ H Q := fun σ H Q ⟨ρ, S, Qh, Xh, hσ, hS, h, k, x⟩ => by
  refine ⟨ρ, S, _, Xh, hσ, hS, h, fun items stay S1 J H1 q t1 a1 it p hp => ?_, x⟩
  obtain ⟨Wv, w0, st, step, done⟩ := q p (a1.free hp)
  refine ⟨fun i m H' => m = items.length - i ∧ i ≤ items.length ∧ Tk K H1 H' ∧ ∃ S', Abs K H' S' ∧ Wv i S', ⟨_, rfl, Nat.zero_le _, Tk.new hp, _, a1.new hp (.mlst upd_same .nil), w0⟩, ?_⟩
  rintro i m H' ⟨rfl, hi, t2, S', a2, w⟩
  by_cases hlt : i < items.length
  · obtain ⟨g1, g2⟩ := it.go i H' S' items[i] t2 a2 (st i S' hi w) (by simp [hlt])
    refine .inr ⟨g1, fun H' => Tk K H1 H' ∧ ∃ S', Abs K H' S' ∧ Wv (i + 1) S', fun H3 ⟨t3, z⟩ => ⟨items.length - (i + 1), by omega, rfl, hlt, t3, z⟩, fun v H3 y => ?_⟩
    obtain ⟨t3, r3, a3⟩ := g2 v H3 y
    have hw : RepS K H3 (L2.wipe σ vs) (wipeD ρ vs) := (hσ.mono (t1.trans (t2.trans t3))).wipe vs
    refine ng v items[i] (L2.wipe σ vs) H3 (wipeD ρ vs) S' _ _ r3 hw a3 (step i _ S' (by simp [hlt]) w) fun ρ4 S4 σ4 H4 q4 t4 r4 a4 e4 => ⟨e4.trans ?_, ρ4, S4, _, X0, r4, a4, q4, fun b S5 H5 q5 t5 a5 => ?_, lx0⟩
    · clear e4 r4 a4 q4 step st done it k x w hw
      have idem : ∀ (l : List Nat) (τ : L2.St) (j : Nat), j ∈ l → (L2.wipe τ l).set j none = L2.wipe τ l := by
        intro l
        induction l with
        | nil => intro τ j h; cases h
        | cons w l ih =>
          intro τ j h
          unfold L2.wipe
          by_cases hj : j = w
          · subst hj; rw [List.set_set]
          · rw [List.set_comm _ _ (Ne.symm hj), ih τ j ((List.mem_cons.mp h).resolve_left hj)]
      have all : ∀ (l m : List Nat) (τ : L2.St), (∀ j ∈ l, j ∈ m) → L2.wipe (L2.wipe τ m) l = L2.wipe τ m := by
        intro l
        induction l with
        | nil => intro m τ _; rfl
        | cons w l ih =>
          intro m τ h
          show (L2.wipe (L2.wipe τ m) l).set w none = _
          rw [ih m τ fun j hj => h j (List.mem_cons_of_mem _ hj)]
          exact idem m τ w (h w List.mem_cons_self)
      exact all vs vs σ fun _ h => h
    · cases b with
      | true =>
        refine iteT ⟨ρ4, S5, _, X0, r4.mono t5, a5, q5, fun d S6 v6 H6 q6 t6 r6 a6 => ?_, lx0⟩
        obtain ⟨acc, e6, l6, w6⟩ := q6
        obtain ⟨xs, h6, rl⟩ := a6 p _ e6
        have tw : Tk K H6 (upd H6 p (.lst (xs ++ [v6]))) := Tk.write h6 wr_lst
        refine ⟨xs, h6, by rw [rl.length]; exact l6, (((t2.trans t3).trans t4).trans t5).trans (t6.trans tw), _, a6.write h6 wr_lst (.mlst upd_same ((rl.mono tw).append (.cons (r6.mono tw) .nil))), w6⟩
      | false => exact iteF ⟨((t2.trans t3).trans t4).trans t5, S5, a5, q5⟩
  · have e : i = items.length := by omega
    subst e
    exact .inl ⟨it.stop H' S' t2 a2 (st _ S' hi w), k _ S' _ H' (done S' w) (t1.trans t2) (.ref p) a2⟩
theorem d_lc (hc : X.calm = true) (hN : X.N.Nodup) (hi : PI X tg iter (lowI X.K W di)) (ok : BlkOk X.N X.env.scope scope own)
    (hg : ∀ (s : Shared) (H : Hp) (C : Addr) (cl : List (Str × Addr)) (fp : List Addr), PG (X.blk s H scope (compEnvC scope cl C X.env) fp) tg g) (ng : NG X.K g dg (own.map (·.2)))
    (ht : ∀ (s : Shared) (H : Hp) (C : Addr) (cl : List (Str × Addr)) (fp : List Addr), PTs (X.blk s H scope (compEnvC scope cl C X.env) fp) ifs (lowT X.K W0 dt))
    (he : ∀ (s : Shared) (H : Hp) (C : Addr) (cl : List (Str × Addr)) (fp : List Addr), PE (X.blk s H scope (compEnvC scope cl C X.env) fp) elt (low X.K W0 de)) (hs : ∀ x, foldedSetIterable iter X.env x = pure x := by intro _; rfl) :
    PE X (.ListComp elt [⟨tg, iter, ifs, 0⟩] scope pos) (low X.K W (dLc di dg dt de (own.map (·.2)))) := pei (pe_lc hc hN hi ok hg ht he hs) (low_lc ng)
theorem s_setLc (i : Nat) {y : Str} {py : Pos} (hc : X.calm = true) (hN : X.N.Nodup) (hsw : swapsWith (.ListComp elt [⟨tg, iter, ifs, 0⟩] scope pos) (some (.Name y py)) spos.line X.env = pure true)
    (hi : PI X tg iter (lowI X.K W di)) (ok : BlkOk X.N X.env.scope scope own)
    (hg : ∀ (s : Shared) (H : Hp) (C : Addr) (cl : List (Str × Addr)) (fp : List Addr), PG (X.blk s H scope (compEnvC scope cl C X.env) fp) tg g) (ng : NG X.K g dg (own.map (·.2)))
    (ht : ∀ (s : Shared) (H : Hp) (C : Addr) (cl : List (Str × Addr)) (fp : List Addr), PTs (X.blk s H scope (compEnvC scope cl C X.env) fp) ifs (lowT X.K W0 dt))
    (he : ∀ (s : Shared) (H : Hp) (C : Addr) (cl : List (Str × Addr)) (fp : List Addr), PE (X.blk s H scope (compEnvC scope cl C X.env) fp) elt (low X.K W0 de))
    (hy : X.N[i]? = some y := by rfl) (hyl : X.env.scope.names.lookup y = some .local := by rfl) (hs : ∀ x, foldedSetIterable iter X.env x = pure x := by intro _; rfl) :
    PS X (.Assign [.Name y py] (.ListComp elt [⟨tg, iter, ifs, 0⟩] scope pos) spos) (lowS X.K W (dAsg (dLc di dg dt de (own.map (·.2))) (gN i))) := psi (ps_setLc hc hN hy hyl hsw hi ok hg ht he hs) fun D σ H ⟨ρ, S, Dh, hσ, hS, h, k⟩ => by
  exact low_lc ng σ H _ ⟨ρ, S, _, _, hσ, hS, h, fun d S1 v H1 q t r a => k.nx _ S1 _ H1 q t ((hσ.mono t).set i r) a, k.lx hσ⟩
end
end VD

namespace VD
open PySem PySem.Spec PyProof.Rows L2

/-! ### operators -/
section
variable {K : PySem.W.Frag} {X : Cx}
/-- the items of a list or a tuple, and a store in which the list may be forgotten -/
def seqOf (d : Dv) (S : Sto) (R : List Dv → Prop) : Prop := match d with
  | .tup xs => R xs
  | .rol xs => R xs
  | .ref a => match S a with
    | some (.lst xs) => R xs
    | _ => False
  | _ => False
def lstOf (d : Dv) (S : Sto) (R : List Dv → Prop) : Prop := match d with
  | .rol xs => R xs
  | .ref a => match S a with
    | some (.lst xs) => R xs
    | _ => False
  | _ => False
theorem lstOf_c {H : Hp} {S : Sto} {d : Dv} {v : V} {R : List Dv → Prop} (r : Rep K H v d) (hS : Abs K H S) (h : lstOf d S R) : ∃ a us xs, v = .ref a ∧ LC K H a us ∧ RepL K H us xs ∧ R xs := by
  unfold lstOf at h
  split at h
  · obtain ⟨a, us, rfl, ha, la⟩ := r.i_rol
    exact ⟨a, us, _, rfl, .inr ha, la, h⟩
  · rename_i a
    split at h
    · rename_i xs ea
      obtain ⟨us, h1, la⟩ := hS _ _ ea
      exact ⟨a, us, xs, r.i_ref, .inl h1, la, h⟩
    · exact h.elim
  · exact h.elim
theorem lstOf_i {H : Hp} {S : Sto} {d : Dv} {v : V} {R : List Dv → Prop} (r : Rep K H v d) (hS : Abs K H S) (h : lstOf d S R) : ∃ a us xs, v = .ref a ∧ SqL K H a us ∧ RepL K H us xs ∧ R xs := by
  obtain ⟨a, us, xs, e, l, rl, z⟩ := lstOf_c r hS h
  exact ⟨a, us, xs, e, l.sq, rl, z⟩
theorem seqOf_i {H : Hp} {S : Sto} {d : Dv} {v : V} {R : List Dv → Prop} (r : Rep K H v d) (hS : Abs K H S) (h : seqOf d S R) : ∃ a us xs, v = .ref a ∧ (SqL K H a us ∨ SqT K H a us) ∧ RepL K H us xs ∧ R xs := by
  unfold seqOf at h
  split at h
  · obtain ⟨a, us, rfl, ha, la⟩ := r.i_tup
    exact ⟨a, us, _, rfl, .inr ha, la, h⟩
  · obtain ⟨a, us, rfl, ha, la⟩ := r.i_rol
    exact ⟨a, us, _, rfl, .inl ha.sq, la, h⟩
  · rename_i a
    split at h
    · rename_i xs ea
      obtain ⟨us, h1, la⟩ := hS _ _ ea
      exact ⟨a, us, xs, r.i_ref, .inl (.inl (.inl h1)), la, h⟩
    · exact h.elim
  · exact h.elim
def rdAdd : RD2 := fun x y S Q => match x, y with
  | .int i, .int j => Q (.int (i + j)) S
  | .tup xs, .tup ys => xs.length + ys.length ≤ sizeLine ∧ Q (.tup (xs ++ ys)) S
  | .str a, .str b => a.length + b.length ≤ sizeLine ∧ Q (.str (a ++ b)) S
  | x, y => lstOf x S fun xs => lstOf y S fun ys => xs.length + ys.length ≤ sizeLine ∧ ∀ p, S p = none → Q (.ref p) (put S p (.lst (xs ++ ys)))
abbrev rAddA (K : PySem.W.Frag) : R2 := fun x y H Q => rI0 (fun i j => .int (i + j)) x y H Q ∨ rCatA K x y H Q ∨ (∃ i j, x = .str i ∧ y = .str j ∧ i.length + j.length ≤ sizeLine ∧ Q (.str (i ++ j)) H) ∨ rCatC K x y H Q
theorem op_addA : OpR X (binaryOp .Add) (rAddA X.K) := op_add.or (op_catA.or (op_add_str.or op_catC))
theorem l_add : LR2 K (rAddA K) rdAdd := by
  intro x y H dx dy S Qh Q rx ry hS h k
  unfold rdAdd at h
  split at h
  · exact .inl ⟨_, _, rx.i_int, ry.i_int, k.now h (.int _) hS⟩
  · obtain ⟨a, xs, rfl, ha, la⟩ := rx.i_tup
    obtain ⟨b, ys, rfl, hb, lb⟩ := ry.i_tup
    obtain ⟨hl, q⟩ := h
    refine .inr (.inl ⟨a, b, xs, ys, rfl, rfl, ha, hb, by rw [la.length, lb.length]; exact hl, fun e => ?_, fun e e' => ?_, fun e e' p hp => ?_⟩)
    · rw [la.nil_iff.mp e] at q
      exact k.now q (.tup hb lb) hS
    · rw [lb.nil_iff.mp e', List.append_nil] at q
      exact k.now q (.tup ha la) hS
    · exact k _ _ _ _ q (Tk.new hp) (.tup (.inl (.inl upd_same)) ((la.mono (Tk.new hp)).append (lb.mono (Tk.new hp)))) (hS.tup hp)
  · exact .inr (.inr (.inl ⟨_, _, rx.i_str, ry.i_str, h.1, k.now h.2 (.str _) hS⟩))
  · obtain ⟨a, us, xs, rfl, l1, r1, h⟩ := lstOf_c rx hS h
    obtain ⟨b, vs, ys, rfl, l2, r2, h⟩ := lstOf_c ry hS h
    exact .inr (.inr (.inr ⟨a, b, us, vs, rfl, rfl, l1, l2, by rw [r1.length, r2.length]; exact h.1, fun p hp => k _ _ _ _ (h.2 p (hS.free hp)) (Tk.new hp) (.ref p) (hS.new hp (.mlst upd_same ((r1.mono (Tk.new hp)).append (r2.mono (Tk.new hp)))))⟩))
def rdSub : RD2 := fun x y S Q => match x, y with
  | .int i, .int j => Q (.int (i - j)) S
  | _, _ => False
theorem l_sub : LR2 K (rI0 fun i j => .int (i - j)) rdSub := by
  intro x y H dx dy S Qh Q rx ry hS h k
  unfold rdSub at h
  split at h
  · exact ⟨_, _, rx.i_int, ry.i_int, k.now h (.int _) hS⟩
  · exact h.elim
/-- a product fits -/
theorem mulok_l {i j : Int} (h1 : -(2 ^ 64) < i) (h2 : i < 2 ^ 64) : IntMulOk i j := .of_left (intBits_le_64 h1 h2)
theorem mulok_r {i j : Int} (h1 : -(2 ^ 64) < j) (h2 : j < 2 ^ 64) : IntMulOk i j := .of_right (intBits_le_64 h1 h2)
theorem op_mulK : OpR X (binaryOp .Mult) (rI IntMulOk fun i j => .int (i * j)) := opI fun _ _ _ _ _ _ _ hc q => mul_int q hc
/-- the same tuple -/
theorem tuple_mulS (l : Addr) (items : Array Value) (n : Nat) (dd : Option Addr) (sl : Array (Option Value)) (x : Int) (u : Tok) (c0 : (decide (x < -(2 ^ 63)) || decide (x ≥ 2 ^ 63)) = false) (c1 : (items.isEmpty || x == 1) = true) :
    Meets (Builtin.«tuple.__mul__» ⟨[.ref l, .int x u], []⟩) (fun _ R s => s.heap.get? l = some { cls := .type "tuple", dict := dd, data := .seq items n, slots := sl } ∧ R (.ok (.ret (Value.ref l))) s) :=
  .of_wp fun prog w A R s h => by
    obtain ⟨hp, g, d, tk, os⟩ := s
    obtain ⟨hl, h⟩ := h
    have f1 := AutoSeq1.idx_int
    wp_walk using wpAny_loadPart' hl
    repeat (first
      | (refine wpAny_ite_false (decide_eq_false (by rw [c0]; exact Bool.false_ne_true)) ?_; wp_walk using wpAny_loadPart' hl)
      | (refine wpAny_ite_true (decide_eq_true c1) ?_; wp_walk using wpAny_loadPart' hl))
    exact ⟨_, rfl, h⟩
def rRepS (K : PySem.W.Frag) : R2 := fun x y H Q => ∃ l k xs, x = .ref l ∧ y = .int k ∧ SqT K H l xs ∧ (xs = [] ∨ k = 1) ∧ 1 ≤ k ∧ k ≤ 1000 ∧ Q (.ref l) H
theorem op_repS : OpR X (binaryOp .Mult) (rRepS X.K) := by
  intro pins s σ H x y v u Q I rx ry h
  obtain ⟨l, k, xs, rfl, rfl, hT, hne, h1, h2, q⟩ := h
  cases rx
  obtain ⟨t, rfl⟩ := ry
  obtain ⟨its, r, ⟨⟨cls, dd, data, sl⟩, ho, hc, n, hd⟩, hs⟩ := I.tuple hT
  simp only at hc hd
  subst hc hd
  have c0 : (decide (k < -(2 ^ 63)) || decide (k ≥ 2 ^ 63)) = false := by
    rw [decide_eq_false (by omega), decide_eq_false (by omega)] <;> rfl
  have c1 : (its.toArray.isEmpty || k == 1) = true := by
    rcases hne with e | e
    · subst e; cases r; rfl
    · subst e; simp
  refine wpAny_binaryOp_repeat_ref (T := "tuple") (U := "int") (by decide) ⟨_, ho, rfl⟩ (fun s' => typeIs_int s' k t) noFill_tuple_mul F.fills_int_mul F.slot_int_rmul repeat_tuple F.slot_int_index.lookup
    (call_meets F.slot_int_rmul (typeIs_int s k t) F.entry_int_rmul (F.args_int_rmul_2 _ _) (int_rmul_tuple k t l its.toArray n dd sl)
      ⟨ho, rfl, ⟨_, ho, rfl⟩, call_meets F.slot_tuple_mul ⟨_, ho, rfl⟩ F.entry_tuple_mul (F.args_tuple_mul_2 _ _) (tuple_mulS l its.toArray n dd sl k t c0 c1) ⟨ho, ?_⟩⟩)
  exact ⟨.ref l, H, I, rfl, q⟩
def rdMul : RD2 := fun x y S Q => match x, y with
  | .int i, .int j => IntMulOk i j ∧ Q (.int (i * j)) S
  | .tup xs, .int k => (1 ≤ k ∧ k ≤ 1000 ∧ xs.length ≤ 1000) ∧ Q (.tup (List.replicate k.toNat xs).flatten) S
  | .ref a, .int k => match S a with
    | some (.lst xs) => (-(2 ^ 63) ≤ k ∧ k < 2 ^ 63 ∧ xs.length * k.toNat ≤ sizeLine) ∧ ∀ p, S p = none → Q (.ref p) (put S p (.lst (List.replicate k.toNat xs).flatten))
    | _ => False
  | _, _ => False
abbrev rMulA (K : PySem.W.Frag) : R2 := fun x y H Q => rI IntMulOk (fun i j => .int (i * j)) x y H Q ∨ rRepS K x y H Q ∨ rRepT K x y H Q ∨ rRep x y H Q
theorem op_mulA : OpR X (binaryOp .Mult) (rMulA X.K) := op_mulK.or (op_repS.or (op_repT.or op_rep))
theorem flat_nil {α : Type} : ∀ k : Nat, (List.replicate k ([] : List α)).flatten = []
  | 0 => rfl
  | k + 1 => by rw [List.replicate_succ, List.flatten_cons, flat_nil k]; rfl
theorem l_mul : LR2 K (rMulA K) rdMul := by
  intro x y H dx dy S Qh Q rx ry hS h k
  unfold rdMul at h
  split at h
  · exact .inl ⟨_, _, rx.i_int, ry.i_int, h.1, k.now h.2 (.int _) hS⟩
  · rename_i xs m
    obtain ⟨a, us, rfl, ha, la⟩ := rx.i_tup
    obtain ⟨⟨h1, h2, h3⟩, q⟩ := h
    by_cases e : us = [] ∨ m = 1
    · refine .inr (.inl ⟨a, m, us, rfl, ry.i_int, ha, e, h1, h2, ?_⟩)
      have e2 : (List.replicate m.toNat xs).flatten = xs := by
        rcases e with e | e
        · rw [la.nil_iff.mp e, flat_nil]
        · subst e; simp
      rw [e2] at q
      exact k.now q (.tup ha la) hS
    · have e1 : us ≠ [] := fun z => e (.inl z)
      have e2 : m ≠ 1 := fun z => e (.inr z)
      refine .inr (.inr (.inl ⟨a, m, us, rfl, ry.i_int, ha, e1, by omega, h2, by rw [la.length]; exact h3, fun p hp => ?_⟩))
      exact k _ _ _ _ q (Tk.new hp) (.tup (.inl (.inl upd_same)) ((la.mono (Tk.new hp)).rep _)) (hS.tup hp)
  · rename_i a m
    split at h
    · rename_i xs ea
      obtain ⟨us, h1, l1⟩ := hS _ _ ea
      obtain ⟨⟨b1, b2, b3⟩, q⟩ := h
      exact .inr (.inr (.inr ⟨a, m, us, rx.i_ref, ry.i_int, h1, b1, b2, by rw [l1.length]; exact b3, fun p hp => k _ _ _ _ (q p (hS.free hp)) (Tk.new hp) (.ref p) (hS.new hp (.mlst upd_same ((l1.mono (Tk.new hp)).rep _)))⟩))
    · exact h.elim
  · exact h.elim
/-- // and % by a positive number -/
def CDivP (i j : Int) : Prop := 0 < j ∧ j.natAbs.log2 < 9000
theorem op_divP : OpR X (binaryOp .FloorDiv) (rI CDivP fun i j => .int (i / j)) := opI fun i j _ _ _ _ _ hc q => by
  have h1 : (0 : Int) < j := hc.1
  exact floordiv_int (by omega) (by rw [Int.fdiv_eq_ediv_of_nonneg i (by omega)]; exact q) (.inl (PyProof.noPylong_of_log2 hc.2))
theorem divp {i j : Int} (b : Nat) (h : 0 < j) (hb : j.natAbs < 2 ^ b) (h0 : 0 < b := by decide) (h9 : b ≤ 9000 := by decide) : CDivP i j := ⟨h, Nat.lt_of_lt_of_le (PySem.Flt.log2_lt_of h0 hb) h9⟩
def rdDiv : RD2 := fun x y S Q => match x, y with
  | .int i, .int j => CDivP i j ∧ Q (.int (i / j)) S
  | _, _ => False
theorem l_div : LR2 K (rI CDivP fun i j => .int (i / j)) rdDiv := by
  intro x y H dx dy S Qh Q rx ry hS h k
  unfold rdDiv at h
  split at h
  · exact ⟨_, _, rx.i_int, ry.i_int, h.1, k.now h.2 (.int _) hS⟩
  · exact h.elim
def rdMod : RD2 := fun x y S Q => match x, y with
  | .int i, .int j => 0 < j ∧ Q (.int (i % j)) S
  | _, _ => False
theorem l_mod : LR2 K (rI (fun _ j => 0 < j) fun i j => .int (i % j)) rdMod := by
  intro x y H dx dy S Qh Q rx ry hS h k
  unfold rdMod at h
  split at h
  · exact ⟨_, _, rx.i_int, ry.i_int, h.1, k.now h.2 (.int _) hS⟩
  · exact h.elim
def rdPow : RD2 := fun x y S Q => match x, y with
  | .int i, .int j => CPow i j ∧ Q (.int (i ^ j.toNat)) S
  | _, _ => False
theorem l_pow : LR2 K (rI CPow fun i j => .int (i ^ j.toNat)) rdPow := by
  intro x y H dx dy S Qh Q rx ry hS h k
  unfold rdPow at h
  split at h
  · exact ⟨_, _, rx.i_int, ry.i_int, h.1, k.now h.2 (.int _) hS⟩
  · exact h.elim
/-- + in place, of ints -/
def rdIAdd : RD2 := fun x y S Q => match x, y with
  | .int i, .int j => Q (.int (i + j)) S
  | _, _ => False
theorem l_iadd : LR2 K (rI0 fun i j => .int (i + j)) rdIAdd := by
  intro x y H dx dy S Qh Q rx ry hS h k
  unfold rdIAdd at h
  split at h
  · exact ⟨_, _, rx.i_int, ry.i_int, k.now h (.int _) hS⟩
  · exact h.elim
/-! one-place -/
variable {W : WX} {a b e : Expr} {da : DE} {pos : Pos}
def dNeg (da : DE) : DE := fun ρ S Q X => da ρ S (fun x S1 => match x with | .int i => Q (.int (-i)) S1 | _ => False) X
theorem d_neg (ha : PE X a (low X.K W da)) : PE X (.UnaryOp .USub a pos) (low X.K W (dNeg da)) := pei (pe_un un_neg ha) fun σ H Q ⟨ρ, S, Qh, Xh, hσ, hS, h, k, x⟩ =>
  ⟨ρ, S, _, Xh, hσ, hS, h, fun d1 S1 v1 H1 q1 t1 r1 a1 => by
    cases d1 with
    | int i => exact ⟨i, r1.i_int, (k.mono t1).now q1 (.int _) a1⟩
    | _ => exact q1.elim, x⟩

/-! ### comparisons -/
mutual
def py : Dv → PyData
  | .non => .none
  | .bl b => .bool b
  | .int i => .int i
  | .str x => .str x
  | .tup xs => .tuple (pyL xs)
  | .rol xs => .list (pyL xs)
  | .ty _ => .none
  | .ref _ => .none
  | .rod _ _ => .none
  | .obj _ _ _ => .none
def pyL : List Dv → List PyData
  | [] => []
  | x :: xs => py x :: pyL xs
/-- data all through -/
def isD : Dv → Bool
  | .non | .bl _ | .int _ | .str _ => true
  | .tup xs | .rol xs => isDL xs
  | .ty _ | .ref _ | .rod _ _ | .obj _ _ _ => false
def isDL : List Dv → Bool
  | [] => true
  | x :: xs => isD x && isDL xs
end
mutual
theorem Rep.dp {H : Hp} : ∀ (d : Dv) {v : V}, Rep K H v d → isD d = true → Dp K H v (py d)
  | .non, _, h, _ => by rw [h.i_non]; exact .non
  | .bl b, _, h, _ => by rw [h.i_bl]; exact .bl b
  | .int b, _, h, _ => by rw [h.i_int]; exact .int b
  | .str b, _, h, _ => by rw [h.i_str]; exact .str b
  | .tup xs, _, h, e => by
    obtain ⟨p, us, rfl, hs, l⟩ := h.i_tup
    exact .tup hs (RepL.dp xs l (by simpa [isD] using e))
  | .rol xs, _, h, e => by
    obtain ⟨p, us, rfl, hs, l⟩ := h.i_rol
    exact .lst hs.sq (RepL.dp xs l (by simpa [isD] using e))
  | .ty _, _, _, e => by cases e
  | .ref _, _, _, e => by cases e
  | .rod _ _, _, _, e => by cases e
  | .obj _ _ _, _, _, e => by cases e
theorem RepL.dp {H : Hp} : ∀ (ds : List Dv) {vs : List V}, RepL K H vs ds → isDL ds = true → DpAll K H vs (pyL ds)
  | [], _, h, _ => by rw [h.nil_i]; exact .nil
  | d :: ds, _, h, e => by
    obtain ⟨v, r, rfl, h1, h2⟩ := h.cons_i
    simp only [isDL, Bool.and_eq_true] at e
    exact .cons (Rep.dp d h1 e.1) (RepL.dp ds h2 e.2)
end
def shp (d : Dv) : Bool := isD d && SeqAt.shaped (py d)
def shpL (ds : List Dv) : Bool := isDL ds && SeqAt.shaped (.list (pyL ds))
def eqvD (x y : Dv) : Bool := PyData.eqv (py x) (py y)
def eqvL (x y : List Dv) : Bool := PyData.eqvAll (pyL x) (pyL y)
/-- a list at its address as data -/
def valOf (d : Dv) (S : Sto) : Dv := match d with
  | .ref a => match S a with
    | some (.lst xs) => .rol xs
    | _ => d
  | _ => d
def rdEqG (f : Bool → Bool) : RD2 := fun x y S Q => match x, y with
  | .int i, .int j => Q (.bl (f (decide (i = j)))) S
  | .bl i, .bl j => Q (.bl (f (decide (i = j)))) S
  | .str i, .str j => Q (.bl (f (decide (i = j)))) S
  | x, y => (shp (valOf x S) = true ∧ shp (valOf y S) = true) ∧ Q (.bl (f (eqvD (valOf x S) (valOf y S)))) S
abbrev rdEq := rdEqG fun b => b
abbrev rdNe := rdEqG fun b => !b
theorem dec_congr {p q : Prop} [Decidable p] [Decidable q] (h : p ↔ q) : decide p = decide q := by
  by_cases hp : p
  · rw [decide_eq_true hp, decide_eq_true (h.mp hp)]
  · rw [decide_eq_false hp, decide_eq_false fun z => hp (h.mpr z)]
/-- == (f the identity), != (f not) -/
def rEqG (K : PySem.W.Frag) (f : Bool → Bool) : R2 := fun x y H Q => (scal x y = true ∧ Q (.bl (f (decide (x = y)))) H) ∨ ∃ d e, Dp K H x d ∧ Dp K H y e ∧ SeqAt.shaped d = true ∧ SeqAt.shaped e = true ∧ Q (.bl (f (PyData.eqv d e))) H
theorem op_eqA (hu : X.A.units + 64 < cLine) : OpR X (compareOp .Eq) (rEqG X.K fun b => b) := op_eq.or (op_eqD hu)
theorem op_neA (hu : X.A.units + 64 < cLine) : OpR X (compareOp .NotEq) (rEqG X.K fun b => !b) := op_ne.or (op_neD hu)
theorem shp_i {d : Dv} (h : shp d = true) : isD d = true ∧ SeqAt.shaped (py d) = true := by
  unfold shp at h
  rwa [Bool.and_eq_true] at h
theorem l_eq {f : Bool → Bool} : LR2 K (rEqG K f) (rdEqG f) := by
  intro x y H dx dy S Qh Q rx ry hS h k
  unfold rdEqG at h
  split at h
  · rw [rx.i_int, ry.i_int]
    refine .inl ⟨rfl, ?_⟩
    rw [dec_congr (q := _ = _) ⟨V.int.inj, congrArg V.int⟩]
    exact k.now h (.bl _) hS
  · rw [rx.i_bl, ry.i_bl]
    refine .inl ⟨rfl, ?_⟩
    rw [dec_congr (q := _ = _) ⟨V.bl.inj, congrArg V.bl⟩]
    exact k.now h (.bl _) hS
  · rw [rx.i_str, ry.i_str]
    refine .inl ⟨rfl, ?_⟩
    rw [dec_congr (q := _ = _) ⟨V.str.inj, congrArg V.str⟩]
    exact k.now h (.bl _) hS
  · obtain ⟨⟨s1, s2⟩, q⟩ := h
    have z : ∀ {v : V} {d : Dv}, Rep K H v d → shp (valOf d S) = true → Dp K H v (py (valOf d S)) := by
      intro v d r s
      by_cases hv : ∃ a xs, d = .ref a ∧ S a = some (.lst xs)
      · obtain ⟨a, xs, rfl, e⟩ := hv
        have e2 : valOf (.ref a) S = .rol xs := by unfold valOf; dsimp only; rw [e]
        rw [e2] at s ⊢
        obtain ⟨us, h1, l1⟩ := hS _ _ e
        rw [r.i_ref]
        have i1 := (shp_i s).1
        exact .lst (.inl (.inl h1)) (RepL.dp _ l1 (by simpa [isD] using i1))
      · have e2 : valOf d S = d := by
          unfold valOf
          split
          · rename_i a
            split
            · rename_i xs e; exact absurd ⟨a, xs, rfl, e⟩ hv
            · rfl
          · rfl
        rw [e2] at s ⊢
        exact Rep.dp _ r (shp_i s).1
    exact .inr ⟨_, _, z rx s1, z ry s2, (shp_i s1).2, (shp_i s2).2, k.now q (.bl _) hS⟩
def rdCmp (p : Int → Int → Bool) : RD2 := fun x y S Q => match x, y with
  | .int i, .int j => Q (.bl (p i j)) S
  | _, _ => False
abbrev rdLt := rdCmp fun i j => decide (i < j)
abbrev rdLe := rdCmp fun i j => decide (i ≤ j)
abbrev rdGt := rdCmp fun i j => decide (j < i)
abbrev rdGe := rdCmp fun i j => decide (j ≤ i)
theorem l_cmp {p : Int → Int → Bool} : LR2 K (rI0 fun i j => .bl (p i j)) (rdCmp p) := by
  intro x y H dx dy S Qh Q rx ry hS h k
  unfold rdCmp at h
  split at h
  · exact ⟨_, _, rx.i_int, ry.i_int, k.now h (.bl _) hS⟩
  · exact h.elim
/-- is None, is not None -/
def isNon : Dv → Bool
  | .non => true
  | _ => false
def rdIsN (f : Bool → Bool) : RD2 := fun x y S Q => match y with
  | .non => Q (.bl (f (isNon x))) S
  | _ => False
theorem isNon_v {H : Hp} {x : V} {d : Dv} (r : Rep K H x d) : decide (x = .non) = isNon d := by
  cases r <;> rfl
theorem l_isN : LR2 K (fun x y H Q => y = .non ∧ Q (.bl (decide (x = .non))) H) (rdIsN fun b => b) := by
  intro x y H dx dy S Qh Q rx ry hS h k
  unfold rdIsN at h
  split at h
  · exact ⟨ry.i_non, by rw [isNon_v rx]; exact k.now h (.bl _) hS⟩
  · exact h.elim
theorem l_notN : LR2 K (fun x y H Q => y = .non ∧ Q (.bl (!decide (x = .non))) H) (rdIsN fun b => !b) := by
  intro x y H dx dy S Qh Q rx ry hS h k
  unfold rdIsN at h
  split at h
  · exact ⟨ry.i_non, by rw [isNon_v rx]; exact k.now h (.bl _) hS⟩
  · exact h.elim
end
/-! ### displays, subscripts, slices -/
section
variable {K : PySem.W.Frag} {X : Cx} {W : WX} {a b e : Expr} {es : List Expr} {da db : DE} {das : DA} {pos : Pos}
def dTup (das : DA) : DE := fun ρ S Q X => das ρ S (fun ds S1 => ds.length ≤ sizeLine ∧ Q (.tup ds) S1) X
theorem d_tup {x1} (h : PA X es (lowA X.K W das)) : PE X (.Tuple es x1 pos) (low X.K W (dTup das)) := pei (pe_tup h) fun σ H Q ⟨ρ, S, Qh, Xh, hσ, hS, h, k, x⟩ =>
  ⟨ρ, S, _, Xh, hσ, hS, h, fun ds S1 vs H1 q1 t1 r1 a1 => ⟨by rw [r1.length]; exact q1.1, fun p hp => k _ _ _ _ q1.2 (t1.trans (Tk.new hp)) (.tup (.inl (.inl upd_same)) (r1.mono (Tk.new hp))) (a1.tup hp)⟩, x⟩
def dLst (das : DA) : DE := fun ρ S Q X => das ρ S (fun ds S1 => ds.length ≤ sizeLine ∧ ∀ p, S1 p = none → Q (.ref p) (put S1 p (.lst ds))) X
theorem d_lst (h : PA X es (lowA X.K W das)) : PE X (.List es pos) (low X.K W (dLst das)) := pei (pe_lst h) fun σ H Q ⟨ρ, S, Qh, Xh, hσ, hS, h, k, x⟩ =>
  ⟨ρ, S, _, Xh, hσ, hS, h, fun ds S1 vs H1 q1 t1 r1 a1 => ⟨by rw [r1.length]; exact q1.1, fun p hp => k _ _ _ _ (q1.2 p (a1.free hp)) (t1.trans (Tk.new hp)) (.ref p) (a1.new hp (.mlst upd_same (r1.mono (Tk.new hp))))⟩, x⟩
theorem atI_len {α β : Type} {xs : List α} {ys : List β} {i : Int} {y : β} (hl : xs.length = ys.length) (h : atI ys i = some y) (P : β → α → Prop) (hp : ∀ (j : Nat) y, ys[j]? = some y → ∃ x, xs[j]? = some x ∧ P y x) : ∃ x, atI xs i = some x ∧ P y x := by
  unfold atI at h ⊢
  rw [hl]
  cases e : ixN ys.length i with
  | none => rw [e] at h; cases h
  | some j =>
    rw [e] at h
    exact hp j y h
def rdIx : RD2 := fun x y S Q => match x, y with
  | .tup xs, .int i => ∃ d, atI xs i = some d ∧ Q d S
  | .rol xs, .int i => ∃ d, atI xs i = some d ∧ Q d S
  | .ref a, .int i => match S a with
    | some (.lst xs) => ∃ d, atI xs i = some d ∧ Q d S
    | _ => False
  | .str z, .int i => z.length ≤ sizeLine ∧ ∃ c, atI z.cps.toList i = some c ∧ Q (.str ⟨#[c]⟩) S
  | _, _ => False
theorem l_ix : LR2 K (rIx K) rdIx := by
  intro x y H dx dy S Qh Q rx ry hS h k
  unfold rdIx at h
  split at h
  · obtain ⟨a, us, rfl, ha, la⟩ := rx.i_tup
    obtain ⟨d, hd, q⟩ := h
    obtain ⟨v, hv, rv⟩ := atI_len la.length hd (fun d v => Rep K H v d) fun j y hy => la.get hy
    exact .inr (.inl ⟨a, us, _, v, rfl, ry.i_int, ha, hv, k.now q rv hS⟩)
  · obtain ⟨a, us, rfl, ha, la⟩ := rx.i_rol
    obtain ⟨d, hd, q⟩ := h
    obtain ⟨v, hv, rv⟩ := atI_len la.length hd (fun d v => Rep K H v d) fun j y hy => la.get hy
    exact .inl ⟨a, us, _, v, rfl, ry.i_int, ha.sq, hv, k.now q rv hS⟩
  · rename_i a i
    split at h
    · rename_i xs ea
      obtain ⟨us, h1, la⟩ := hS _ _ ea
      obtain ⟨d, hd, q⟩ := h
      obtain ⟨v, hv, rv⟩ := atI_len la.length hd (fun d v => Rep K H v d) fun j y hy => la.get hy
      exact .inl ⟨a, us, _, v, rx.i_ref, ry.i_int, .inl (.inl h1), hv, k.now q rv hS⟩
    · exact h.elim
  · obtain ⟨hz, c, hc, q⟩ := h
    exact .inr (.inr ⟨_, _, c, rx.i_str, ry.i_int, hz, hc, k.now q (.str _) hS⟩)
  · exact h.elim
theorem d_ix (ha : PE X a (low X.K W da)) (hb : PE X b (low X.K W db)) (hs : PlainIx b := by intro _ _; rfl) : PE X (.Subscript a b pos) (low X.K W (dOp rdIx da db)) := pei (pe_ix ix_seq ha hb hs) (low_op l_ix)
/-- xs[i] = v -/
def rdSet : RDS := fun o i d S Q => match o, i with
  | .ref a, .int k => match S a with
    | some (.lst xs) => ∃ j, ixN xs.length k = some j ∧ Q (put S a (.lst (xs.set j d)))
    | _ => False
  | _, _ => False
theorem l_set : LRS K rSetL rdSet := by
  intro o i v H dO dI d S Qh Q rO rI r hS h k
  unfold rdSet at h
  split at h
  · rename_i a m
    split at h
    · rename_i xs ea
      obtain ⟨us, h1, la⟩ := hS _ _ ea
      obtain ⟨j, hj, q⟩ := h
      have tw : Tk K H (upd H a (.lst (us.set j v))) := Tk.write h1 wr_lst
      exact ⟨a, us, m, j, rO.i_ref, rI.i_int, h1, by rw [la.length]; exact hj, k _ _ q tw (hS.write h1 wr_lst (.mlst upd_same ((la.mono tw).set j (r.mono tw))))⟩
    · exact h.elim
  · exact h.elim
/-! slices -/
variable {dl dh : DO}
def oNone : DO := fun _ S Q _ => Q none S
def oSome (de : DE) : DO := fun ρ S Q X => de ρ S (fun d S1 => match d with | .int i => Q (some i) S1 | _ => False) X
theorem o_none : PO X none (lowO X.K W oNone) := poi po_none fun σ H Q ⟨ρ, S, Qh, Xh, hσ, hS, h, k, x⟩ => k _ S H h (Tk.refl H) hS
theorem o_some {de : DE} (h : PE X e (low X.K W de)) : PO X (some e) (lowO X.K W (oSome de)) := poi (po_some h) fun σ H Q ⟨ρ, S, Qh, Xh, hσ, hS, h, k, x⟩ =>
  ⟨ρ, S, _, Xh, hσ, hS, h, fun d S1 v H1 q t r a => by
    cases d with
    | int i => exact ⟨i, r.i_int, k _ S1 H1 q t a⟩
    | _ => exact q.elim, x⟩
def cutD {α : Type} (xs : List α) (lo hi : Option Int) : List α := (xs.drop (HT.sIx xs.length 0 lo)).take (HT.sIx xs.length xs.length hi - HT.sIx xs.length 0 lo)
theorem cut_rep {H : Hp} {vs : List V} {ds : List Dv} (l : RepL K H vs ds) (lo hi : Option Int) : RepL K H (cutV vs lo hi) (cutD ds lo hi) := by
  unfold cutV cutD
  rw [l.length]
  exact (l.drop _).take _
theorem cut_whole {α : Type} {xs : List α} {lo hi : Option Int} (h : HT.sIx xs.length 0 lo = 0 ∧ HT.sIx xs.length xs.length hi = xs.length) : cutD xs lo hi = xs := by
  unfold cutD
  rw [h.1, h.2, List.drop_zero, Nat.sub_zero, List.take_length]
def rdSl (x : Dv) (lo hi : Option Int) (S : Sto) (Q : QD) : Prop := match x with
  | .tup xs => Q (.tup (cutD xs lo hi)) S
  | .rol xs => ∀ p, S p = none → Q (.ref p) (put S p (.lst (cutD xs lo hi)))
  | .ref a => match S a with
    | some (.lst xs) => ∀ p, S p = none → Q (.ref p) (put S p (.lst (cutD xs lo hi)))
    | _ => False
  | .str z => z.length ≤ sizeLine ∧ Q (.str (cutS z lo hi)) S
  | _ => False
def dSl (de : DE) (dl dh : DO) : DE := fun ρ S Q X => de ρ S (fun d S1 => dl ρ S1 (fun lo S2 => dh ρ S2 (fun hi S3 => rdSl d lo hi S3 Q) X) X) X
def rSlAll (K : PySem.W.Frag) : V → Option Int → Option Int → Hp → VK → Prop := fun x lo hi H Q => rSlA K x lo hi H Q ∨ rSlL K x lo hi H Q ∨ rSlS x lo hi H Q
theorem sl_all : SlR X (rSlAll X.K) := sl_tupA.or (sl_list.or sl_str)
theorem l_sl {x : V} {d : Dv} {lo hi : Option Int} {H : Hp} {S : Sto} {Qh : QD} {Q : VK} (rx : Rep K H x d) (hS : Abs K H S) (h : rdSl d lo hi S Qh) (k : Lk K H Qh Q) : rSlAll K x lo hi H Q := by
  unfold rdSl at h
  split at h
  · rename_i xs
    obtain ⟨a, us, rfl, ha, la⟩ := rx.i_tup
    refine .inl ⟨a, us, rfl, ha, fun e => ?_, fun _ p hp => k _ _ _ _ h (Tk.new hp) (.tup (.inl (.inl upd_same)) ((cut_rep la lo hi).mono (Tk.new hp))) (hS.tup hp)⟩
    rw [la.length] at e
    rw [cut_whole e] at h
    exact k.now h (.tup ha la) hS
  · obtain ⟨a, us, rfl, ha, la⟩ := rx.i_rol
    exact .inr (.inl ⟨a, us, rfl, ha.sq, fun p hp => k _ _ _ _ (h p (hS.free hp)) (Tk.new hp) (.ref p) (hS.new hp (.mlst upd_same ((cut_rep la lo hi).mono (Tk.new hp))))⟩)
  · rename_i a
    split at h
    · rename_i xs ea
      obtain ⟨us, h1, la⟩ := hS _ _ ea
      exact .inr (.inl ⟨a, us, rx.i_ref, .inl (.inl h1), fun p hp => k _ _ _ _ (h p (hS.free hp)) (Tk.new hp) (.ref p) (hS.new hp (.mlst upd_same ((cut_rep la lo hi).mono (Tk.new hp))))⟩)
    · exact h.elim
  · exact .inr (.inr ⟨_, rx.i_str, h.1, k.now h.2 (.str _) hS⟩)
  · exact h.elim
theorem d_sl {lo hi : Option Expr} {p2 : Pos} (he : PE X e (low X.K W da)) (hl : PO X lo (lowO X.K W dl)) (hu : PO X hi (lowO X.K W dh)) : PE X (.Subscript e (.Slice lo hi none p2) pos) (low X.K W (dSl da dl dh)) := pei (pe_slice sl_all he hl hu) fun σ H Q ⟨ρ, S, Qh, Xh, hσ, hS, h, k, x⟩ =>
  ⟨ρ, S, _, Xh, hσ, hS, h, fun d1 S1 v1 H1 q1 t1 r1 a1 => ⟨ρ, S1, _, Xh, hσ.mono t1, a1, q1, fun lo S2 H2 q2 t2 a2 => ⟨ρ, S2, _, Xh, hσ.mono (t1.trans t2), a2, q2, fun hi S3 H3 q3 t3 a3 =>
    l_sl (r1.mono (t2.trans t3)) a3 q3 (k.mono ((t1.trans t2).trans t3)), x.mono (t1.trans t2)⟩, x.mono t1⟩, x⟩

/-! ### builtins -/
def rdLen : RDC := fun ds S Q => match ds with
  | [.tup xs] => Q (.int xs.length) S
  | [.rol xs] => Q (.int xs.length) S
  | [.ref a] => match S a with
    | some (.lst xs) => Q (.int xs.length) S
    | _ => False
  | [.str z] => z.length ≤ sizeLine ∧ Q (.int z.length) S
  | _ => False
theorem one_i {H : Hp} {vs : List V} {d : Dv} (r : RepL K H vs [d]) : ∃ v, vs = [v] ∧ Rep K H v d := by
  obtain ⟨v, t, rfl, h1, h2⟩ := r.cons_i
  exact ⟨v, by rw [h2.nil_i], h1⟩
theorem two_i {H : Hp} {vs : List V} {d e : Dv} (r : RepL K H vs [d, e]) : ∃ v u, vs = [v, u] ∧ Rep K H v d ∧ Rep K H u e := by
  obtain ⟨v, t, rfl, h1, h2⟩ := r.cons_i
  obtain ⟨u, rfl, h3⟩ := one_i h2
  exact ⟨v, u, rfl, h1, h3⟩
theorem l_len : LRC K (fun xs H Q => ∃ x n, xs = [x] ∧ LenV K x H n ∧ Q (.int n) H) rdLen := by
  intro vs H ds S Qh Q r hS h k
  unfold rdLen at h
  split at h
  · obtain ⟨v, rfl, rr⟩ := one_i r
    obtain ⟨a, us, rfl, ha, la⟩ := rr.i_tup
    exact ⟨_, _, rfl, .inr ⟨us, ha, la.length.symm⟩, k.now h (.int _) hS⟩
  · obtain ⟨v, rfl, rr⟩ := one_i r
    obtain ⟨a, us, rfl, ha, la⟩ := rr.i_rol
    exact ⟨_, _, rfl, .inl ⟨us, ha.sq, la.length.symm⟩, k.now h (.int _) hS⟩
  · rename_i a
    obtain ⟨v, rfl, rr⟩ := one_i r
    split at h
    · rename_i xs ea
      obtain ⟨us, h1, la⟩ := hS _ _ ea
      rw [rr.i_ref]
      exact ⟨_, _, rfl, .inl ⟨us, .inl (.inl h1), la.length.symm⟩, k.now h (.int _) hS⟩
    · exact h.elim
  · obtain ⟨v, rfl, rr⟩ := one_i r
    rw [rr.i_str]
    exact ⟨_, _, rfl, ⟨h.1, rfl⟩, k.now h.2 (.int _) hS⟩
  · exact h.elim
/-- a function on ints -/
def rdInt1 (f : Int → Dv) : RDC := fun ds S Q => match ds with
  | [.int i] => Q (f i) S
  | _ => False
theorem l_abs : LRC K (fun xs H Q => ∃ i, xs = [.int i] ∧ Q (.int (if i < 0 then -i else i)) H) (rdInt1 fun i => .int (if i < 0 then -i else i)) := by
  intro vs H ds S Qh Q r hS h k
  unfold rdInt1 at h
  split at h
  · obtain ⟨v, rfl, rr⟩ := one_i r
    rw [rr.i_int]
    exact ⟨_, rfl, k.now h (.int _) hS⟩
  · exact h.elim
def rdInt : RDC := fun ds S Q => match ds with
  | [.int i] => Q (.int i) S
  | [.bl b] => Q (.int (if b then 1 else 0)) S
  | _ => False
theorem l_int : LRC K (fun xs H Q => (∃ i, xs = [.int i] ∧ Q (.int i) H) ∨ ∃ k, xs = [.bl k] ∧ Q (.int (if k then 1 else 0)) H) rdInt := by
  intro vs H ds S Qh Q r hS h k
  unfold rdInt at h
  split at h
  · obtain ⟨v, rfl, rr⟩ := one_i r
    rw [rr.i_int]
    exact .inl ⟨_, rfl, k.now h (.int _) hS⟩
  · obtain ⟨v, rfl, rr⟩ := one_i r
    rw [rr.i_bl]
    exact .inr ⟨_, rfl, k.now h (.int _) hS⟩
  · exact h.elim
def rdInt2 (f : Int → Int → Dv) : RDC := fun ds S Q => match ds with
  | [.int i, .int j] => Q (f i j) S
  | _ => False
theorem l_max2 : LRC K (fun xs H Q => ∃ i j, xs = [.int i, .int j] ∧ Q (.int (if j > i then j else i)) H) (rdInt2 fun i j => .int (if j > i then j else i)) := by
  intro vs H ds S Qh Q r hS h k
  unfold rdInt2 at h
  split at h
  · obtain ⟨v, u, rfl, r1, r2⟩ := two_i r
    rw [r1.i_int, r2.i_int]
    exact ⟨_, _, rfl, k.now h (.int _) hS⟩
  · exact h.elim
theorem l_min2 : LRC K (fun xs H Q => ∃ i j, xs = [.int i, .int j] ∧ Q (.int (if j < i then j else i)) H) (rdInt2 fun i j => .int (if j < i then j else i)) := by
  intro vs H ds S Qh Q r hS h k
  unfold rdInt2 at h
  split at h
  · obtain ⟨v, u, rfl, r1, r2⟩ := two_i r
    rw [r1.i_int, r2.i_int]
    exact ⟨_, _, rfl, k.now h (.int _) hS⟩
  · exact h.elim
def rdAll : RDC := fun ds S Q => match ds with
  | [d] => lstOf d S fun xs => ∃ bs : List Bool, xs = bs.map Dv.bl ∧ ∃ S', Sub S' S ∧ Q (.bl (bs.all id)) S'
  | _ => False
theorem l_all : LRC K (rAll K) rdAll := by
  intro vs H ds S Qh Q r hS h k
  unfold rdAll at h
  split at h
  · obtain ⟨v, rfl, rr⟩ := one_i r
    obtain ⟨a, us, xs, rfl, hl, rl, bs, rfl, S', sb, q⟩ := lstOf_i rr hS h
    exact ⟨a, bs, rfl, by rw [← rl.bls]; exact hl, k.now q (.bl _) (hS.sub sb)⟩
  · exact h.elim
def rdAny : RDC := fun ds S Q => match ds with
  | [d] => lstOf d S fun xs => ∃ bs : List Bool, xs = bs.map Dv.bl ∧ ∃ S', Sub S' S ∧ Q (.bl (bs.any id)) S'
  | _ => False
theorem l_any : LRC K (rAny K) rdAny := by
  intro vs H ds S Qh Q r hS h k
  unfold rdAny at h
  split at h
  · obtain ⟨v, rfl, rr⟩ := one_i r
    obtain ⟨a, us, xs, rfl, hl, rl, bs, rfl, S', sb, q⟩ := lstOf_i rr hS h
    exact ⟨a, bs, rfl, by rw [← rl.bls]; exact hl, k.now q (.bl _) (hS.sub sb)⟩
  · exact h.elim
def rdSum : RDC := fun ds S Q => match ds with
  | [d] => lstOf d S fun xs => ∃ bs : List Int, xs = bs.map Dv.int ∧ ∃ S', Sub S' S ∧ Q (.int bs.sum) S'
  | _ => False
theorem l_sum : LRC K (rSum K) rdSum := by
  intro vs H ds S Qh Q r hS h k
  unfold rdSum at h
  split at h
  · obtain ⟨v, rfl, rr⟩ := one_i r
    obtain ⟨a, us, xs, rfl, hl, rl, bs, rfl, S', sb, q⟩ := lstOf_i rr hS h
    exact ⟨a, bs, rfl, by rw [← rl.ints]; exact hl, k.now q (.int _) (hS.sub sb)⟩
  · exact h.elim
def rdSorted : RDC := fun ds S Q => match ds with
  | [d] => lstOf d S fun xs => ∃ ns : List Int, xs = ns.map Dv.int ∧ ns.length < 64 ∧ ∃ S', Sub S' S ∧ ∀ (ns' : List Int) p, ns'.Perm ns → ns'.Pairwise (· ≤ ·) → S' p = none → Q (.ref p) (put S' p (.lst (ns'.map Dv.int)))
  | _ => False
theorem l_sorted : LRC K (rSorted K) rdSorted := by
  intro vs H ds S Qh Q r hS h k
  unfold rdSorted at h
  split at h
  · obtain ⟨v, rfl, rr⟩ := one_i r
    obtain ⟨a, us, xs, rfl, hl, rl, bs, rfl, hlen, S', sb, q⟩ := lstOf_i rr hS h
    exact ⟨a, bs, rfl, by rw [← rl.ints]; exact hl, hlen, fun ns' p h1 h2 hp => k _ _ _ _ (q ns' p h1 h2 ((hS.sub sb).free hp)) (Tk.new hp) (.ref p) ((hS.sub sb).new hp (.mlst upd_same (RepL.of_ints ns')))⟩
  · exact h.elim
def rdTuple : RDC := fun ds S Q => match ds with
  | [d] => seqOf d S fun xs => ∃ S', Sub S' S ∧ Q (.tup xs) S'
  | _ => False
theorem l_tuple : LRC K (fun xs H Q => ∃ p ys, xs = [.ref p] ∧ ((SqL K H p ys ∧ ∀ l, H l = none → Q (.ref l) (upd H l (.tup ys))) ∨ (SqT K H p ys ∧ Q (.ref p) H))) rdTuple := by
  intro vs H ds S Qh Q r hS h k
  unfold rdTuple at h
  split at h
  · obtain ⟨v, rfl, rr⟩ := one_i r
    obtain ⟨a, us, xs, rfl, hl, rl, S', sb, q⟩ := seqOf_i rr hS h
    rcases hl with hl | hl
    · exact ⟨a, us, rfl, .inl ⟨hl, fun p hp => k _ _ _ _ q (Tk.new hp) (.tup (.inl (.inl upd_same)) (rl.mono (Tk.new hp))) ((hS.sub sb).tup hp)⟩⟩
    · exact ⟨a, us, rfl, .inr ⟨hl, k.now q (.tup hl rl) (hS.sub sb)⟩⟩
  · exact h.elim
def rdList : RDC := fun ds S Q => match ds with
  | [d] => seqOf d S fun xs => ∀ p, S p = none → Q (.ref p) (put S p (.lst xs))
  | _ => False
theorem l_list : LRC K (fun xs H Q => ∃ p ys, xs = [.ref p] ∧ (SqL K H p ys ∨ SqT K H p ys) ∧ ∀ l, H l = none → Q (.ref l) (upd H l (.lst ys))) rdList := by
  intro vs H ds S Qh Q r hS h k
  unfold rdList at h
  split at h
  · obtain ⟨v, rfl, rr⟩ := one_i r
    obtain ⟨a, us, xs, rfl, hl, rl, q⟩ := seqOf_i rr hS h
    exact ⟨a, us, rfl, hl, fun p hp => k _ _ _ _ (q p (hS.free hp)) (Tk.new hp) (.ref p) (hS.new hp (.mlst upd_same (rl.mono (Tk.new hp))))⟩
  · exact h.elim
/-! isinstance -/
/-- the type of a thing -/
def tyD (S : Sto) : Dv → Option Value
  | .non => some (.type "NoneType")
  | .bl _ => some (.type "bool")
  | .int _ => some (.type "int")
  | .str _ => some (.type "str")
  | .tup _ => some (.type "tuple")
  | .rol _ => some (.type "list")
  | .rod _ _ => some (.type "dict")
  | .obj C _ _ => some (.ref C)
  | .ref a => match S a with
    | some (.lst _) => some (.type "list")
    | some (.dK _) => some (.type "dict")
    | some (.ins C _ _) => some (.ref C)
    | _ => none
  | .ty _ => none
def tyNames : List String := ["int", "bool", "str", "tuple", "list", "dict"]
def tyAll : List String := ["NoneType", "bool", "int", "str", "tuple", "list", "dict"]
def isiB (t n : String) : Bool := t == n || (t == "bool" && n == "int")
theorem kitB_tab : ∀ t ∈ tyAll, ∀ n ∈ tyNames, kitB t n = some (isiB t n) := by decide +kernel
/-- what the text says of an own class whose instances are asked -/
structure OwnT (K : PySem.W.Frag) (C : Addr) : Prop where
  cl : Cls K C
  ha : PySem.W.findIn K (.ref C) "__class__" = some (some (.builtin "object.__class__"))
  hn : PySem.W.specialIn K (.builtin "object.__class__") "__get__" = some (some (.builtin "getset_descriptor.__get__"))
  htk : PySem.W.takesIn K (.builtin "object.__class__") = some true
  hm : PySem.W.mroIn K C (.type "object") = some true
  isC : PySem.W.isClsIn K C = true
  ty : PySem.W.typeIn K (.ref C) = some (.type "type")
  nb : ∀ n ∈ tyNames, PySem.W.mroIn K C (.type n) = some false
/-- own classes, and of pairs of them whether the one is of the other -/
structure OTab where
  cs : List Addr
  sub : List (Addr × Addr × Bool)
structure OTab.Ok (K : PySem.W.Frag) (T : OTab) : Prop where
  own : ∀ C ∈ T.cs, OwnT K C
  sub : ∀ p ∈ T.sub, PySem.W.kitOne K (.ref p.1) (.ref p.2.1) = some p.2.2
theorem otab_nil {K : PySem.W.Frag} : OTab.Ok K ⟨[], []⟩ := ⟨fun _ h => (by cases h), fun _ h => (by cases h)⟩
inductive TyY (K : PySem.W.Frag) (H : Hp) : V → Value → Prop where
  | x {v : V} {t : Value} (h : TyX K H v t) : TyY K H v t
  | ins {a C dx : Addr} {fs : List (Str × V)} (e : InsAt H a C dx fs) (O : OwnT K C) : TyY K H (.ref a) (.ref C)
theorem kit_ofY {pins : List (Addr × Obj)} {σ : L2.St} {H : Hp} {s : Shared} {x : V} {u t : Value} (I : Inv X pins σ H s) (rx : RelV x u) (ty : TyY X.K H x t) : ∃ P : Heap → Prop, PySem.W.KitX X.K u t P ∧ P s.heap ∧ u ≠ .builtin "__main__.__loader__#opaque" := by
  cases ty with
  | x h => exact kit_of I rx h
  | ins e O =>
    cases (show u = Value.ref _ from rx)
    obtain ⟨mA, Om, _⟩ := insAt_get I.hok e
    obtain ⟨od, J, _⟩ := Om.look
    exact ⟨_, PySem.W.kitx_own (O.cl.get _) O.cl.hd O.ha O.hn O.htk O.hm, J, fun z => nomatch z⟩
/-- classes asked for -/
inductive ClsD : V → Dv → Value → Prop where
  | ty (n : String) : ClsD (.ty n) (.ty n) (.type n)
  | own (C : Addr) : ClsD (.ref C) (.ref C) (.ref C)
/-- isinstance(x, c); isinstance(x, (S, T)) by a tuple of any make -/
def rIsiY (K : PySem.W.Frag) : List V → Hp → VK → Prop := fun xs H Q => ∃ (x c : V) (t u : Value) (b : Bool), xs = [x, c] ∧ ClsV c u ∧ TyY K H x t ∧ PySem.W.kitOne K t u = some b ∧ Q (.bl b) H
def rIsiTY (K : PySem.W.Frag) : List V → Hp → VK → Prop := fun xs H Q => ∃ (x : V) (tp : Addr) (cs : List V) (t : Value) (us : List Value) (b : Bool), xs = [x, .ref tp] ∧ SqT K H tp cs ∧ Paired ClsV cs us ∧ TyY K H x t ∧ PySem.W.kitAny K t us = some b ∧ Q (.bl b) H
theorem call_isiY : CallR X (.builtin "isinstance") (rIsiY X.K) := by
  intro pins s σ H xs us Q I r h
  obtain ⟨x, c, t, u, b, rfl, k, ty, e, q⟩ := h
  obtain ⟨u1, u2, rfl, r1, r2⟩ := vals2 r
  obtain rfl := k.eq r2
  obtain ⟨P, Z, p, hx⟩ := kit_ofY I r1 ty
  exact PySem.W.kia_one Z I.kIn p e hx fun tk => ⟨.bl b, H, I.tok tk, rfl, q⟩
theorem call_isiTY : CallR X (.builtin "isinstance") (rIsiTY X.K) := by
  intro pins s σ H xs us Q I r h
  obtain ⟨x, tp, cs, t, ws, b, rfl, hT, k, ty, e, q⟩ := h
  obtain ⟨u1, u2, rfl, r1, r2⟩ := vals2 r
  cases (show u2 = Value.ref tp from r2)
  obtain ⟨P, Z, p, hx⟩ := kit_ofY I r1 ty
  obtain ⟨its, rv, ⟨o, h1, h2, n, h3⟩, hz⟩ := I.tuple hT
  obtain rfl := ClsV.all k rv
  obtain ⟨oc, od, dt, sl⟩ := o
  simp only at h2 h3
  subst h2 h3
  exact PySem.W.kia_tup Z I.kIn p h1 e hx fun tk => ⟨.bl b, H, I.tok tk, rfl, q⟩
theorem call_isiA : CallR X (.builtin "isinstance") (fun xs H Q => rIsiY X.K xs H Q ∨ rIsiTY X.K xs H Q) := call_isiY.or call_isiTY
theorem tyD_in {S : Sto} {d : Dv} {t : Value} (h : tyD S d = some t) : (∃ n ∈ tyAll, t = .type n) ∨ ∃ C, t = .ref C := by
  unfold tyD at h
  split at h <;> first
    | (cases h; done)
    | (cases h; exact .inl ⟨_, by decide, rfl⟩)
    | (cases h; exact .inr ⟨_, rfl⟩)
    | (split at h <;> first | (cases h; done) | (cases h; exact .inl ⟨_, by decide, rfl⟩) | (cases h; exact .inr ⟨_, rfl⟩))
theorem tyD_ok {H : Hp} {S : Sto} {d : Dv} {v : V} {t : Value} (r : Rep K H v d) (hS : Abs K H S) (h : tyD S d = some t) (O : ∀ C, t = .ref C → OwnT K C) : TyY K H v t := by
  unfold tyD at h
  split at h
  · cases h; rw [r.i_non]; exact .x (.base .non)
  · cases h; rw [r.i_bl]; exact .x (.base (.bl _))
  · cases h; rw [r.i_int]; exact .x (.base (.int _))
  · cases h; rw [r.i_str]; exact .x (.base (.str _))
  · cases h
    obtain ⟨a, us, rfl, ha, la⟩ := r.i_tup
    rcases ha with (ha | ⟨o, ha⟩) | ⟨o, its, n, h1, h2, _⟩
    · exact .x (.base (.tup ha))
    · exact .x (.fTuple ha)
    · exact .x (.kTuple h1 h2)
  · cases h
    obtain ⟨a, us, rfl, ha, la⟩ := r.i_rol
    rcases ha with ⟨o, ha⟩ | ⟨its, n, h1, _⟩
    · exact .x (.base (.frz ha))
    · exact .x (.kList h1 rfl)
  · cases h
    obtain ⟨a, o, vs, rfl, ha, _⟩ := r.i_rod
    exact .x (.fDict ha)
  · cases h
    obtain ⟨a, dx, o, vs, rfl, ha, _⟩ := r.i_obj
    exact .ins (.inr ⟨o, ha⟩) (O _ rfl)
  · rename_i a
    split at h
    · rename_i xs ea
      cases h
      obtain ⟨us, h1, la⟩ := hS _ _ ea
      rw [r.i_ref]
      exact .x (.base (.lst h1))
    · rename_i xs ea
      cases h
      obtain ⟨us, h1, la⟩ := hS _ _ ea
      rw [r.i_ref]
      exact .x (.base (.dK h1))
    · rename_i C dx xs ea
      cases h
      obtain ⟨us, h1, la⟩ := hS _ _ ea
      rw [r.i_ref]
      exact .ins (.inl h1) (O _ rfl)
    · cases h
  · cases h
/-- whether a thing of the type t is one of the class c -/
inductive IsiR (T : OTab) : Value → Dv → Bool → Prop where
  | bb (t n : String) (h : tyNames.contains n = true) : IsiR T (.type t) (.ty n) (isiB t n)
  | bo (t : String) (C : Addr) (h : C ∈ T.cs) : IsiR T (.type t) (.ref C) false
  | ob (C : Addr) (n : String) (h : C ∈ T.cs) (hn : tyNames.contains n = true) : IsiR T (.ref C) (.ty n) false
  | oo (C D : Addr) (b : Bool) (h : C ∈ T.cs) (hs : (C, D, b) ∈ T.sub) : IsiR T (.ref C) (.ref D) b
inductive IsiRs (T : OTab) (t : Value) : List Dv → Bool → Prop where
  | nil : IsiRs T t [] false
  | cons {c : Dv} {cs : List Dv} {b r : Bool} : IsiR T t c b → IsiRs T t cs r → IsiRs T t (c :: cs) (b || r)
def rdIsi (T : OTab) : RDC := fun ds S Q => match ds with
  | [d, .tup cs] => ∃ t b, tyD S d = some t ∧ IsiRs T t cs b ∧ (∀ C, t = .ref C → C ∈ T.cs) ∧ Q (.bl b) S
  | [d, c] => ∃ t b, tyD S d = some t ∧ IsiR T t c b ∧ Q (.bl b) S
  | _ => False
theorem noMro : ∀ t ∈ tyAll, ∀ C : Addr, (PySem.fastBuiltinMro t).map (fun l => l.contains (Value.ref C)) = some false := by
  have h : ∀ t ∈ tyAll, ∃ l : List String, PySem.fastBuiltinMro t = some (l.map Value.type) := by
    intro t ht
    simp only [tyAll, List.mem_cons, List.not_mem_nil, or_false] at ht
    rcases ht with rfl | rfl | rfl | rfl | rfl | rfl | rfl
    · exact ⟨["NoneType", "object"], by decide +kernel⟩
    · exact ⟨["bool", "int", "object"], by decide +kernel⟩
    · exact ⟨["int", "object"], by decide +kernel⟩
    · exact ⟨["str", "object"], by decide +kernel⟩
    · exact ⟨["tuple", "object"], by decide +kernel⟩
    · exact ⟨["list", "object"], by decide +kernel⟩
    · exact ⟨["dict", "object"], by decide +kernel⟩
  intro t ht C
  obtain ⟨l, e⟩ := h t ht
  rw [e, Option.map_some]
  congr 1
  clear e
  induction l with
  | nil => rfl
  | cons x l ih =>
    rw [List.map_cons, List.contains_cons, ih]
    rfl
theorem isiR_ok {T : OTab} (hT : T.Ok K) {t : Value} {c : Dv} {b : Bool} (ht : (∃ n ∈ tyAll, t = .type n) ∨ ∃ C, t = .ref C) (h : IsiR T t c b) {H : Hp} {v : V} (rc : Rep K H v c) : ∃ u, ClsV v u ∧ PySem.W.kitOne K t u = some b := by
  cases h with
  | bb t n hn =>
    rw [rc.i_ty]
    have ht' : t ∈ tyAll := by
      rcases ht with ⟨m, hm, e⟩ | ⟨C, e⟩
      · cases e; exact hm
      · cases e
    exact ⟨_, .ty n, kit_ty (kitB_tab t ht' n (by simpa using hn))⟩
  | bo t C hC =>
    rw [rc.i_ref]
    have ht' : t ∈ tyAll := by
      rcases ht with ⟨m, hm, e⟩ | ⟨C, e⟩
      · cases e; exact hm
      · cases e
    refine ⟨_, .own C, ?_⟩
    have O := hT.own C hC
    have e2 : ((PySem.W.clsIn K C).isSome && PySem.W.typeIn K (.ref C) == some (.type "type")) = true := by
      have h1 : (PySem.W.clsIn K C).isSome = true := O.isC
      rw [h1, O.ty] <;> rfl
    show (if (Value.type t == Value.ref C) = true then some true else (if ((PySem.W.clsIn K C).isSome && PySem.W.typeIn K (.ref C) == some (.type "type")) = true then PySem.W.subIn K (.type t) (.ref C) else none)) = some false
    rw [if_neg (by show ¬ (false = true); decide), if_pos e2]
    exact noMro t ht' C
  | ob C n hC hn =>
    rw [rc.i_ty]
    refine ⟨_, .ty n, ?_⟩
    have O := hT.own C hC
    have hn' : n ∈ tyNames := by simpa using hn
    have hk : PySem.W.kitMeta n = true := by
      have : ∀ n ∈ tyNames, PySem.W.kitMeta n = true := by decide +kernel
      exact this n hn'
    show (if (Value.ref C == Value.type n) = true then some true else (if PySem.W.kitMeta n = true then PySem.W.subIn K (.ref C) (.type n) else none)) = some false
    rw [if_neg (by show ¬ (false = true); decide), if_pos hk]
    exact O.nb n hn'
  | oo C D b hC hs =>
    rw [rc.i_ref]
    exact ⟨_, .own D, hT.sub _ hs⟩
theorem isiRs_ok {T : OTab} (hT : T.Ok K) {t : Value} {cs : List Dv} {b : Bool} (ht : (∃ n ∈ tyAll, t = .type n) ∨ ∃ C, t = .ref C) (h : IsiRs T t cs b) {H : Hp} : ∀ {vs : List V}, RepL K H vs cs → ∃ us, Paired ClsV vs us ∧ PySem.W.kitAny K t us = some b := by
  induction h with
  | nil => intro vs r; rw [r.nil_i]; exact ⟨[], .nil, rfl⟩
  | @cons c cs b r hc _ ih =>
    intro vs rv
    obtain ⟨v, vs', rfl, r1, r2⟩ := rv.cons_i
    obtain ⟨u, k, e⟩ := isiR_ok hT ht hc r1
    obtain ⟨us, ks, es⟩ := ih r2
    refine ⟨u :: us, .cons k ks, kitAny_cons e (fun z => ?_) fun z => by rw [z]; rfl⟩
    rw [z, Bool.false_or]
    exact es
theorem isiR_own {T : OTab} {t : Value} {c : Dv} {b : Bool} (h : IsiR T t c b) (C : Addr) (e : t = .ref C) : C ∈ T.cs := by
  cases h with
  | bb => cases e
  | bo => cases e
  | ob C n hC => cases e; exact hC
  | oo C D b hC => cases e; exact hC
theorem l_isi {T : OTab} (hT : T.Ok K) : LRC K (fun xs H Q => rIsiY K xs H Q ∨ rIsiTY K xs H Q) (rdIsi T) := by
  intro vs H ds S Qh Q r hS h k
  unfold rdIsi at h
  split at h
  · rename_i d cs
    obtain ⟨v, u, rfl, r1, r2⟩ := two_i r
    obtain ⟨t, b, ht, hb, ho, q⟩ := h
    obtain ⟨a, us, rfl, ha, la⟩ := r2.i_tup
    obtain ⟨ws, k1, k2⟩ := isiRs_ok hT (tyD_in ht) hb la
    exact .inr ⟨v, a, us, _, _, _, rfl, ha, k1, tyD_ok r1 hS ht (fun C e => hT.own C (ho C e)), k2, k.now q (.bl _) hS⟩
  · rename_i d c
    obtain ⟨v, u, rfl, r1, r2⟩ := two_i r
    obtain ⟨t, b, ht, hb, q⟩ := h
    obtain ⟨w, k1, k2⟩ := isiR_ok hT (tyD_in ht) hb r2
    exact .inl ⟨v, u, _, _, b, rfl, k1, tyD_ok r1 hS ht (fun C e => hT.own C (isiR_own hb C e)), k2, k.now q (.bl _) hS⟩
  · exact h.elim
end
end VD

namespace VD
open PySem PySem.Spec PyProof.Rows L2

/-! ### a def keeps its promise -/
def startN (n : Nat) (ds : List Dv) : Rho := ds.map some ++ List.replicate (n - ds.length) none
/-- the reading of a def with so many names follows from its promise -/
def Rd (t : DS) (n : Nat) (sp : SpD) : Prop := ∀ ds S Q Xh, sp ds S Q Xh → t { nx := fun _ S' => Q .non S', rt := Q, ex := fun c da _ S' => Xh c da S' } (startN n ds) S
abbrev WF (E : XK) : WX := fun cls d _ H => E cls d H
section
variable {P : Program} {w : World} {K : PySem.W.Frag} {mg : Str → Option Value} {base : Heap}
theorem okD {x qual : Str} {st : Stmt} {f : Addr} {fd : FuncData} {N ps : List Str} {k : Nat} {sp : SpD} (F : Fun K x qual st f fd) (Sc : FnScope N ps (defScope st)) (len : ∀ ds S Q X, sp ds S Q X → ds.length = ps.length)
    (t : DS) (hb : ∀ (cdv : Value) (A : Around) (outer : List Env) (s : Shared) (H : Hp) (E : XK), RoomG k (A.deeper (envOfC qual (defScope st) s.heap.objs.size f cdv)) →
      PSs (cxOf (L2.CX P w) P w K mg base N qual (defScope st) f cdv A outer s H E) (defBody st) (lowS K (WF E) t))
    (hr : Rd t N.length sp) : FnD P w K mg base (k + 1) f fd ps sp := by
  refine funG F Sc (fun vs H Q E ⟨ds, S, Qh, Xh, r, a, h, _⟩ => by rw [r.length]; exact len _ _ _ _ h) fun cdv A outer s H vs Q E hr' ⟨ds, S, Qh, Xh, r, a, h, k1, k2⟩ => ?_
  refine ⟨_, hb cdv A outer s H E hr', startD N ds, S, _, RepS.start r, a, hr ds S Qh Xh h, ⟨fun ρ' S' σ' H' q t _ a => k1 .non S' .non H' q t .non a, k1, fun _ _ _ _ (q : False) => False.elim q, fun _ _ _ _ (q : False) => False.elim q, fun c da ρ' S' σ' H' q t _ a => k2 c da S' H' q t a⟩⟩
end

theorem tkF {P : Program} {w : World} {K : PySem.W.Frag} {mg : Str → Option Value} {base : Heap} {N : List Str} {qual : Str} {scope : Scope} {f : Addr} {cd : Value} {A : Around} {outer : List Env} {s : Shared} {H : Hp} {E : XK} :
    Takes (cxOf (L2.CX P w) P w K mg base N qual scope f cd A outer s H E) (WF E) := takes_of rfl rfl rfl rfl
theorem d_ty {X : Cx} {W : WX} {x : Str} {n : String} {pos : Pos} (hm : X.mg x = none) (hv : bootBuiltins x = some (.type n)) (hg : Gl X x := by rfl) (hn : x ≠ "__name__" := by decide) (hd : (x == ("__debug__" : Str)) = false := by decide) :
    PE X (.Name x pos) (low X.K W (dC (.ty n))) := d_bltn (v := .ty n) hm hv rfl (fun _ => .ty n) hg hn hd
/-! ### written values -/
section
variable {K : PySem.W.Frag}
theorem v_int {i : Int} {t : Tok} : VRep K (.int i t) (.int i) := .mk (v := .int i) ⟨t, rfl⟩ fun _ => .int i
theorem v_str {i : Str} {t : Tok} : VRep K (.str i t) (.str i) := .mk (v := .str i) ⟨t, rfl⟩ fun _ => .str i
theorem v_bl {i : Bool} : VRep K (.bool i) (.bl i) := .mk (v := .bl i) rfl fun _ => .bl i
theorem v_non : VRep K .none .non := .mk (v := .non) rfl fun _ => .non
theorem v_ty {n : String} : VRep K (.type n) (.ty n) := .mk (v := .ty n) rfl fun _ => .ty n
theorem v_ref {a : Addr} : VRep K (.ref a) (.ref a) := .mk (v := .ref a) rfl fun _ => .ref a
inductive VReps (K : PySem.W.Frag) : List Value → List Dv → Prop
  | nil : VReps K [] []
  | cons {u : Value} {us : List Value} {d : Dv} {ds : List Dv} : VRep K u d → VReps K us ds → VReps K (u :: us) (d :: ds)
theorem VReps.rep : ∀ {us : List Value} {ds : List Dv}, VReps K us ds → ∃ vs, Vals vs us ∧ ∀ H, RepL K H vs ds
  | _, _, .nil => ⟨[], .nil, fun _ => .nil⟩
  | _, _, .cons (.mk r h) t => by
    obtain ⟨vs, h1, h2⟩ := VReps.rep t
    exact ⟨_ :: vs, .cons r h1, fun H => .cons (h H) (h2 H)⟩
theorem v_tup {a : Addr} {us : List Value} {ds : List Dv} {dd : Option Addr} {n : Nat} {sl : Array (Option Value)} (l : K.lookup a = some ⟨.type "tuple", dd, .seq us.toArray n, sl⟩) (r : VReps K us ds) (hz : us.length ≤ sizeLine := by first | decide | (simp only [List.length_cons, List.length_nil]; decide)) : VRep K (.ref a) (.tup ds) := by
  obtain ⟨vs, h1, h2⟩ := r.rep
  exact .mk (v := .ref a) rfl fun H => .tup (.inr ⟨_, us.toArray, n, l, rfl, rfl, by simpa using hz, by simpa using h1⟩) (h2 H)
end

theorem bt_int : bootBuiltins "int" = some (.type "int") := by decide +kernel
theorem bt_bool : bootBuiltins "bool" = some (.type "bool") := by decide +kernel
theorem bt_str : bootBuiltins "str" = some (.type "str") := by decide +kernel
theorem bt_tuple : bootBuiltins "tuple" = some (.type "tuple") := by decide +kernel
theorem bt_list : bootBuiltins "list" = some (.type "list") := by decide +kernel
theorem bt_dict : bootBuiltins "dict" = some (.type "dict") := by decide +kernel
theorem bt_range : bootBuiltins "range" = some (.type "range") := by decide +kernel
theorem bt_set : bootBuiltins "set" = some (.type "set") := by decide +kernel
theorem bt_enumerate : bootBuiltins "enumerate" = some (.type "enumerate") := by decide +kernel
theorem bt_zip : bootBuiltins "zip" = some (.type "zip") := by decide +kernel
theorem bt_reversed : bootBuiltins "reversed" = some (.type "reversed") := by decide +kernel
theorem bt_len : bootBuiltins "len" = some (.builtin "len") := by decide +kernel
theorem bt_isinstance : bootBuiltins "isinstance" = some (.builtin "isinstance") := by decide +kernel
theorem bt_all : bootBuiltins "all" = some (.builtin "all") := by decide +kernel
theorem bt_any : bootBuiltins "any" = some (.builtin "any") := by decide +kernel
theorem bt_abs : bootBuiltins "abs" = some (.builtin "abs") := by decide +kernel
theorem bt_min : bootBuiltins "min" = some (.builtin "min") := by decide +kernel
theorem bt_max : bootBuiltins "max" = some (.builtin "max") := by decide +kernel
theorem bt_sum : bootBuiltins "sum" = some (.builtin "sum") := by decide +kernel
theorem bt_sorted : bootBuiltins "sorted" = some (.builtin "sorted") := by decide +kernel
theorem bt_repr : bootBuiltins "repr" = some (.builtin "repr") := by decide +kernel
theorem bt_ord : bootBuiltins "ord" = some (.builtin "ord") := by decide +kernel
theorem bt_chr : bootBuiltins "chr" = some (.builtin "chr") := by decide +kernel
/-! ### an own exception without fields -/
section
variable {X : Cx} {C : Addr} {bmB : List Value} {B newId initId : String}
theorem pmk_own0 {x : Str} {p pos : Pos} (F : ExcBaseFacts B newId initId bmB) (q : PySem.W.excIn X.K C bmB newId = true) (gC : X.mg x = some (.ref C)) (kC : PySem.W.keepIn X.K (.ref C) = true) (r : Raises X (.ref C)) (hg : Gl X x)
    (hdb : (x == ("__debug__" : Str)) = false := by decide) : PMk X (.Call (.Name x p) [] [] pos) (fun _ H Q => Q (.ref C) none H) := by
  intro pins s σ H Q I h
  refine wpAny_Call_Name_kw (ld_glob I hg gC ?_ hdb)
  refine PySem.W.callWith_K0 I.kIn kC ?_
  show wpAny _ _ (call (.ref C) []) _ _ _
  obtain ⟨bm, N, nm, qn, bs, hdct, sn, sub, ab, col, dd, k0, k1, k2, k3, k5, mN, hC, hN, hni, T⟩ := exc_obj I.kIn q
  refine wpAny_call_exc_subT F T hC hN hni (fun h' e hm => ?_) (by show 0 ≤ sizeLine; exact Nat.zero_le _)
  exact mk_of I hm r h (I.hok.gone hm.new)
/-- what the written part says of such a class -/
structure Exc0 (K : PySem.W.Frag) (C : Addr) : Prop where
  q : PySem.W.excIn K C [.type "ValueError", .type "Exception", .type "BaseException", .type "object"] "ValueError.__new__" = true
  kp : PySem.W.keepIn K (.ref C) = true
  sb : PySem.W.subIn K (.ref C) (.type "BaseException") = some true
  ty : PySem.W.typeIn K (.ref C) = some (.type "type")
def dRaise (cls : Value) : DS := fun D ρ S => D.ex cls none ρ S
theorem s_raise0 {W : WX} {x : Str} {p pos' pos : Pos} (hc : X.calm = true) (tk : Takes X W) (T : Exc0 X.K C) (gC : X.mg x = some (.ref C)) (hg : Gl X x := by rfl) (hdb : (x == ("__debug__" : Str)) = false := by decide) :
    PS X (.Raise (some (.Call (.Name x p) [] [] pos')) none pos) (lowS X.K W (dRaise (.ref C))) := psi (ps_raise hc tk (pmk_own0 PySem.F.excBase_ValueError T.q gC T.kp (raises_own T.sb T.ty) hg hdb)) fun D σ H ⟨ρ, S, Dh, hσ, hS, h, k⟩ => k.ex _ _ ρ S σ H h (Tk.refl H) hσ hS
end

/-! ### methods of lists -/
abbrev RDM := Dv → List Dv → Sto → QD → Prop
def LRM (K : PySem.W.Frag) (r : V → List V → Hp → VK → Prop) (rd : RDM) : Prop := ∀ x vs H d ds S Qh Q, Rep K H x d → RepL K H vs ds → Abs K H S → rd d ds S Qh → Lk K H Qh Q → r x vs H Q
def isLst (d : Dv) (S : Sto) : Prop := match d with
  | .ref a => match S a with
    | some (.lst _) => True
    | _ => False
  | _ => False
def dBM (rd : RDM) (do_ : DE) (das : DA) : DE := fun ρ S Q X => do_ ρ S (fun x S1 => isLst x S1 ∧ das ρ S1 (fun ds S2 => rd x ds S2 Q) X) X
section
variable {K : PySem.W.Frag} {X : Cx} {W : WX} {o e : Expr} {es : List Expr} {do_ : DE} {das : DA}
theorem isLst_ty {H : Hp} {S : Sto} {d : Dv} {v : V} (r : Rep K H v d) (hS : Abs K H S) (h : isLst d S) : tyV K "list" v H := by
  unfold isLst at h
  split at h
  · rename_i a
    split at h
    · rename_i xs ea
      obtain ⟨us, h1, l⟩ := hS _ _ ea
      rw [r.i_ref]
      exact .inl ⟨rfl, us, .inl (.inl h1)⟩
    · exact h.elim
  · exact h.elim
theorem low_bm {r : V → List V → Hp → VK → Prop} {rd : RDM} (hl : LRM X.K r rd) : ∀ σ H Q, low X.K W (dBM rd do_ das) σ H Q → tBM X.K "list" r (low X.K W do_) (lowA X.K W das) σ H Q := fun σ H Q ⟨ρ, S, Qh, Xh, hσ, hS, h, k, x⟩ =>
  ⟨ρ, S, _, Xh, hσ, hS, h, fun d S1 v H1 q t rr a => ⟨isLst_ty rr a q.1, ρ, S1, _, Xh, hσ.mono t, a, q.2, fun ds S2 vs H2 q2 t2 r2 a2 => hl v vs H2 d ds S2 Qh Q (rr.mono t2) r2 a2 q2 (k.mono (t.trans t2)), x.mono t⟩, x⟩
def rdAppend : RDM := fun x ds S Q => match x, ds with
  | .ref a, [y] => match S a with
    | some (.lst xs) => xs.length < sizeLine ∧ Q .non (put S a (.lst (xs ++ [y])))
    | _ => False
  | _, _ => False
theorem l_append : LRM K rAppend rdAppend := by
  intro x vs H d ds S Qh Q rx r hS h k
  unfold rdAppend at h
  split at h
  · rename_i a y
    obtain ⟨v, rfl, r1⟩ := one_i r
    split at h
    · rename_i xs ea
      obtain ⟨us, h1, l⟩ := hS _ _ ea
      have tw : Tk K H (upd H a (.lst (us ++ [v]))) := Tk.write h1 wr_lst
      exact ⟨a, us, v, rx.i_ref, rfl, h1, by rw [l.length]; exact h.1, k _ _ _ _ h.2 tw .non (hS.write h1 wr_lst (.mlst upd_same ((l.mono tw).append (.cons (r1.mono tw) .nil))))⟩
    · exact h.elim
  · exact h.elim
end
theorem d_bm {X : Cx} {W : WX} {o e : Expr} {es : List Expr} {do_ : DE} {das : DA} {apos cpos : Pos} {name : Str} {id : String} {r : V → List V → Hp → VK → Prop} {rd : RDM} (slot : Slot "list" name id) (hty : typeOf (.builtin id) = pure (.type "method_descriptor")) (hm : MtR X id r) (hl : LRM X.K r rd)
    (ho : PE X o (low X.K W do_)) (ha : PA X (e :: es) (lowA X.K W das)) (hbase : attributeBase o name X.env (eval o X.env) = eval o X.env := by rfl)
    (hfew : ((backTo cpos (starEach (e :: es) X.env)).all (fun x => !x.1) && (backToKw cpos (keywordEach [] X.env)).all (fun x => x.1.isSome)
      && decide ((e :: es).length + ([] : List Keyword).length + (if ([] : List Keyword).isEmpty then 0 else 1) < 30)) = true := by rfl)
    (hline : (apos.endLine == cpos.line) = true := by rfl) (hs : starEach (e :: es) X.env = (false, eval e X.env) :: starEach es X.env := by rfl) (hplain : (backTo cpos (starEach es X.env)).any (·.1) = false := by rfl) :
    PE X (.Call (.Attribute o name apos) (e :: es) [] cpos) (low X.K W (dBM rd do_ das)) := pei (pe_bm PySem.F.plainAttrs_list slot hty hm ho ha hbase hfew hline hs hplain) (low_bm hl)

/-! ### the end of a law -/
/-- a law's promise -/
def spLaw : SpD := fun ds S Q _ => ∃ ns : List Int, ds = [.rol (ns.map Dv.int)] ∧ ns.length ≤ 63 ∧ S = (fun _ => none) ∧ ∀ S', Q (.bl true) S'
theorem law_in {K : PySem.W.Frag} {H : Hp} {a : Addr} {ns : List Int} (hl : ns.length ≤ 63) (h : CL K H a (ns.map V.int)) : lowF K spLaw [.ref a] H (fun v _ => v = .bl true) fun _ _ _ => False := by
  refine ⟨[.rol (ns.map Dv.int)], fun _ => none, fun d _ => d = .bl true, X0, .cons (.rol h (.of_ints ns)) .nil, ?_, ⟨ns, rfl, hl, rfl, fun _ => rfl⟩, ?_, ?_⟩
  · intro a m e
    cases e
  · intro d S' v H' q t r a
    have q' : d = .bl true := q
    subst q'
    exact r.i_bl
  · intro c da S' H' q
    exact False.elim q
theorem law_out {P : Program} {w : World} (H : Hp) (s : Shared) (e : Value) (s' : Shared) (h : L2.CX P w [] H s (fun _ _ _ => False) e s') : False := by
  obtain ⟨_, _, _, _, _, _, _, _, _, _, _, _, z⟩ := h
  exact z
end VD

namespace VD
open PySem PySem.Spec PyProof.Rows L2

/-- a comprehension whose element is a function of the item and leaves the store -/
theorem lc_pure {g : DG} {te : DE} {vs : List Nat} {ρ : Rho} {Q : QD} {items : List Dv} {stay : Sto → Prop} {S : Sto} (f : Dv → Dv) (hl : items.length ≤ sizeLine) (hst : ∀ p m, S p = none → stay (put S p m))
    (he : ∀ x ∈ items, ∀ (T : Sto) (K : QD), Sub S T → K (f x) T → g x (wipeD ρ vs) T fun ρ2 S2 => te ρ2 S2 K X0) (hQ : ∀ p, S p = none → Q (.ref p) (put S p (.lst (items.map f)))) : LcGo g dYes te vs ρ Q items stay S := by
  intro p hp
  refine ⟨fun i T => T = put S p (.lst ((items.take i).map f)), rfl, fun i T _ h => by rw [h]; exact hst p _ hp, fun i x T hx h => ?_, fun T h => ?_⟩
  · subst h
    refine he x (List.mem_of_getElem? hx) _ _ (Sub.new hp) ?_
    refine ⟨(items.take i).map f, put_same, ?_, ?_⟩
    · rw [List.length_map, List.length_take]
      have := (List.getElem?_eq_some_iff.mp hx).1
      omega
    · show put _ _ _ = put _ _ _
      rw [put_put, List.take_add_one, hx, List.map_append]
      rfl
  · rw [show T = _ from h, List.take_length]
    exact hQ p hp
/-- .. with one test -/
theorem lc_filter {g : DG} {tt : DT} {te : DE} {vs : List Nat} {ρ : Rho} {Q : QD} {items : List Dv} {stay : Sto → Prop} {S : Sto} (c : Dv → Bool) (f : Dv → Dv) (hl : items.length ≤ sizeLine) (hst : ∀ p m, S p = none → stay (put S p m))
    (he : ∀ x ∈ items, ∀ (T : Sto) (K : QD) (N : Sto → Prop), Sub S T → (c x = true → K (f x) T) → (c x = false → N T) → g x (wipeD ρ vs) T fun ρ2 S2 => tt ρ2 S2 (fun b S3 => if b = true then te ρ2 S3 K X0 else N S3) X0) (hQ : ∀ p, S p = none → Q (.ref p) (put S p (.lst ((items.filter c).map f)))) : LcGo g tt te vs ρ Q items stay S := by
  intro p hp
  refine ⟨fun i T => T = put S p (.lst (((items.take i).filter c).map f)), rfl, fun i T _ h => by rw [h]; exact hst p _ hp, fun i x T hx h => ?_, fun T h => ?_⟩
  · subst h
    refine he x (List.mem_of_getElem? hx) _ _ _ (Sub.new hp) (fun hc => ?_) (fun hc => ?_)
    · refine ⟨((items.take i).filter c).map f, put_same, ?_, ?_⟩
      · rw [List.length_map]
        have h1 := (List.getElem?_eq_some_iff.mp hx).1
        have h2 := List.length_filter_le c (items.take i)
        rw [List.length_take] at h2
        omega
      · show put _ _ _ = put _ _ _
        rw [put_put, List.take_add_one, hx]
        simp [List.filter_append, hc]
    · show put _ _ _ = put _ _ _
      rw [List.take_add_one, hx]
      simp [List.filter_append, hc]
  · rw [show T = _ from h, List.take_length]
    exact hQ p hp
/-- a sequence by what holds between the two -/
theorem cut_seq {a b : DS} {D : DEnds} {ρ : Rho} {S : Sto} (M : Rho → Sto → Prop) (h1 : ∀ N : Rho → Sto → Prop, (∀ ρ S, M ρ S → N ρ S) → a { D with nx := N } ρ S) (h2 : ∀ ρ S, M ρ S → b D ρ S) : dSeq a b D ρ S := h1 _ h2
/-- a loop over names and a store by an invariant -/
theorem for_go {g : DG} {tb : DS} {D : DEnds} {ρ : Rho} {items : List Dv} {stay : Sto → Prop} {S : Sto} (Wv : Nat → Rho → Sto → Prop) (h0 : Wv 0 ρ S) (hst : ∀ i ρ S, i ≤ items.length → Wv i ρ S → stay S)
    (hs : ∀ i x ρ S, items[i]? = some x → Wv i ρ S → g x ρ S fun ρ2 S2 => tb { D with nx := Wv (i + 1), ct := Wv (i + 1), bk := D.nx } ρ2 S2) (hd : ∀ ρ S, Wv items.length ρ S → D.nx ρ S) : ForGo g tb D ρ items stay S := ⟨Wv, h0, hst, hs, hd⟩
theorem atI_lt {α : Type} {xs : List α} {i : Int} (h0 : 0 ≤ i) (h : i < xs.length) : atI xs i = xs[i.toNat]? := by
  unfold atI ixN
  rw [if_pos h0, if_pos h]
  rfl
theorem atI_cons0 {α : Type} (x : α) (xs : List α) : atI (x :: xs) 0 = some x := by
  rw [atI_lt (Int.le_refl 0) (by simp)]; rfl
theorem ixN_lt {n : Nat} {i : Int} (h0 : 0 ≤ i) (h : i < n) : ixN n i = some i.toNat := by
  unfold ixN
  rw [if_pos h0, if_pos h]
theorem atI_nn {α : Type} {xs : List α} {i : Int} (h0 : 0 ≤ i) : atI xs i = xs[i.toNat]? := by
  unfold atI ixN
  rw [if_pos h0]
  by_cases h : i < xs.length
  · rw [if_pos h]; rfl
  · rw [if_neg h, List.getElem?_eq_none (by omega)]; rfl
theorem atI_0 {α : Type} {xs : List α} : atI xs 0 = xs[0]? := atI_nn (by decide)
theorem atI_1 {α : Type} {xs : List α} : atI xs 1 = xs[1]? := atI_nn (by decide)
theorem atI_2 {α : Type} {xs : List α} : atI xs 2 = xs[2]? := atI_nn (by decide)
theorem atI_3 {α : Type} {xs : List α} : atI xs 3 = xs[3]? := atI_nn (by decide)
theorem atI_4 {α : Type} {xs : List α} : atI xs 4 = xs[4]? := atI_nn (by decide)
theorem atI_5 {α : Type} {xs : List α} : atI xs 5 = xs[5]? := atI_nn (by decide)
theorem atI_6 {α : Type} {xs : List α} : atI xs 6 = xs[6]? := atI_nn (by decide)
theorem atI_7 {α : Type} {xs : List α} : atI xs 7 = xs[7]? := atI_nn (by decide)
theorem ixN_30 : ixN 3 0 = some 0 := rfl
theorem ixN_31 : ixN 3 1 = some 1 := rfl
theorem ixN_32 : ixN 3 2 = some 2 := rfl
theorem ixN_50 : ixN 5 0 = some 0 := rfl
theorem ixN_51 : ixN 5 1 = some 1 := rfl
theorem ixN_52 : ixN 5 2 = some 2 := rfl
theorem ixN_53 : ixN 5 3 = some 3 := rfl
theorem ixN_54 : ixN 5 4 = some 4 := rfl
theorem cut_take {α : Type} {xs : List α} {k : Int} (h : 0 ≤ k) : cutD xs none (some k) = xs.take k.toNat := by
  unfold cutD
  obtain ⟨n, rfl⟩ := Int.eq_ofNat_of_zero_le h
  show (xs.drop (HT.sIx xs.length 0 none)).take (HT.sIx xs.length xs.length (some (n : Int)) - HT.sIx xs.length 0 none) = _
  rw [HT.sIx_none, HT.sIx_nat, List.drop_zero, Nat.sub_zero]
  simp
theorem cut_drop {α : Type} {xs : List α} {k : Int} (h : 0 ≤ k) : cutD xs (some k) none = xs.drop k.toNat := by
  unfold cutD
  obtain ⟨n, rfl⟩ := Int.eq_ofNat_of_zero_le h
  show (xs.drop (HT.sIx xs.length 0 (some (n : Int)))).take (HT.sIx xs.length xs.length none - HT.sIx xs.length 0 (some (n : Int))) = _
  rw [HT.sIx_none, HT.sIx_nat]
  by_cases hn : n ≤ xs.length
  · rw [Nat.min_eq_left hn, show (Int.toNat (n : Int)) = n from rfl, List.take_of_length_le (by simp)]
  · rw [Nat.min_eq_right (by omega), List.drop_eq_nil_of_le (Nat.le_refl _), List.drop_eq_nil_of_le (by simp; omega)]
    simp
theorem cut_neg {α : Type} {xs : List α} {k : Nat} : cutD xs none (some (-((k : Int) + 1))) = xs.take (xs.length - (k + 1)) := by
  unfold cutD
  have e : HT.sIx xs.length xs.length (some (-((k : Int) + 1))) = xs.length - (k + 1) := by
    show (if (-((k : Int) + 1)) < 0 then (-((k : Int) + 1) + (xs.length : Int)).toNat else min (-((k : Int) + 1)).toNat xs.length) = _
    rw [if_pos (by omega)]
    omega
  rw [HT.sIx_none, e, List.drop_zero, Nat.sub_zero]
/-! equal tuples of ints -/
theorem isDL_ints : ∀ ns : List Int, isDL (ns.map Dv.int) = true
  | [] => rfl
  | n :: ns => by rw [List.map_cons]; simp [isDL, isD, isDL_ints ns]
theorem canLay_ints : ∀ ns : List Int, PyData.canLayAll0 (pyL (ns.map Dv.int)) = true
  | [] => rfl
  | n :: ns => by rw [List.map_cons]; simp [pyL, py, PyData.canLayAll0, PyData.canLay0, canLay_ints ns]
theorem depth_ints : ∀ ns : List Int, PyData.depthAll (pyL (ns.map Dv.int)) ≤ 1
  | [] => by simp [pyL, PyData.depthAll]
  | n :: ns => by
    have := depth_ints ns
    rw [List.map_cons]
    simp [pyL, py, PyData.depthAll, PyData.depth]
    omega
theorem shp_ints (ns : List Int) : shp (.tup (ns.map Dv.int)) = true := by
  unfold shp SeqAt.shaped
  have h := depth_ints ns
  simp [isD, py, isDL_ints, PyData.canLay0, canLay_ints, PyData.depth]
  omega
theorem shp_non : shp .non = true := by decide
theorem eqvL_ints : ∀ xs ys : List Int, eqvL (xs.map Dv.int) (ys.map Dv.int) = decide (xs = ys)
  | [], [] => rfl
  | [], _ :: _ => rfl
  | _ :: _, [] => rfl
  | x :: xs, y :: ys => by
    have := eqvL_ints xs ys
    unfold eqvL at this ⊢
    rw [List.map_cons, List.map_cons]
    simp only [pyL, py, PyData.eqvAll, PyData.eqv, this]
    rw [Bool.eq_iff_iff]
    simp
end VD

namespace VD
open PySem PySem.Spec PyProof.Rows L2
/-- a promise that nobody can ask for -/
theorem fn_never {P : Program} {w : World} {K : PySem.W.Frag} {mg : Str → Option Value} {base : Heap} {k : Nat} {f : Addr} {fd : FuncData} {ps : List Str} {sp : SpD} (h : ∀ ds S Q X, sp ds S Q X → False) : FnD P w K mg base k f fd ps sp :=
  ⟨fun vs H Q E ⟨ds, S, Qh, Xh, _, _, z, _⟩ => (h _ _ _ _ z).elim, fun A outer s H args us vs Q E _ _ _ _ ⟨ds, S, Qh, Xh, _, _, z, _⟩ => (h _ _ _ _ z).elim⟩
/-! ### zip, enumerate -/
def pairs (xs ys : List Dv) : List Dv := List.zipWith (fun x y => .tup [x, y]) xs ys
theorem pairs_get {xs ys : List Dv} {i : Nat} {z : Dv} (h : (pairs xs ys)[i]? = some z) : ∃ x y, xs[i]? = some x ∧ ys[i]? = some y ∧ z = .tup [x, y] := by
  unfold pairs at h
  rw [List.getElem?_zipWith] at h
  split at h
  · rename_i x y h1 h2
    cases h
    exact ⟨x, y, h1, h2, rfl⟩
  · cases h
theorem pairs_len {xs ys : List Dv} : (pairs xs ys).length = min xs.length ys.length := by unfold pairs; simp
/-- this list is still there -/
def isL (d : Dv) (S : Sto) (xs : List Dv) : Prop := lstOf d S fun zs => zs = xs
section
variable {K : PySem.W.Frag} {H0 : Hp} {a b : Addr} {us vs : List V} {xs ys : List Dv}
theorem rep2 {H : Hp} {T : Addr} {x y : V} {dx dy : Dv} (hT : H T = none) (rx : Rep K H x dx) (ry : Rep K H y dy) : Rep K (upd H T (.tup [x, y])) (.ref T) (.tup [dx, dy]) :=
  .tup (.inl (.inl upd_same)) (.cons (rx.mono (Tk.new hT)) (.cons (ry.mono (Tk.new hT)) .nil))
theorem it_zipT (h1 : SqT K H0 a us) (l1 : RepL K H0 us xs) (h2 : SqT K H0 b vs) (l2 : RepL K H0 vs ys) : ItD K H0 (RZ.ItzT K a b) (pairs xs ys) (fun _ => True) := by
  refine ⟨fun i H S z t ha _ hz => ?_, fun H S t ha _ => ⟨us, vs, t.t _ _ h1, t.t _ _ h2, ?_⟩⟩
  · obtain ⟨x, y, ex, ey, rfl⟩ := pairs_get hz
    obtain ⟨v, ev, rv⟩ := l1.get ex
    obtain ⟨u, eu, ru⟩ := l2.get ey
    refine ⟨⟨us, vs, v, u, t.t _ _ h1, t.t _ _ h2, ev, eu⟩, fun q H' ⟨T, x', y', e1, e2, e3, e4, e5⟩ => ?_⟩
    subst e1 e3
    have g1 := e4 us (t.t _ _ h1)
    have g2 := e5 vs (t.t _ _ h2)
    rw [ev] at g1; rw [eu] at g2
    cases g1; cases g2
    exact ⟨Tk.new e2, rep2 e2 (rv.mono t) (ru.mono t), ha.tup e2⟩
  · rw [pairs_len, ← l1.length, ← l2.length]
    omega
/-- a list read by its data -/
theorem lst_at {H : Hp} {S : Sto} {v : V} {d : Dv} {ds : List Dv} (r : Rep K H0 v d) (t : Tk K H0 H) (ha : Abs K H S) (s : isL d S ds) : ∃ p ws, v = .ref p ∧ SqL K H p ws ∧ RepL K H ws ds := by
  obtain ⟨p, ws, zs, e, hl, rl, rfl⟩ := lstOf_i (r.mono t) ha s
  exact ⟨p, ws, e, hl, rl⟩
theorem it_zipL {dx dy : Dv} (r1 : Rep K H0 (.ref a) dx) (r2 : Rep K H0 (.ref b) dy) : ItD K H0 (Itz K a b) (pairs xs ys) (fun S => isL dx S xs ∧ isL dy S ys) := by
  refine ⟨fun i H S z t ha st hz => ?_, fun H S t ha st => ?_⟩
  · obtain ⟨x, y, ex, ey, rfl⟩ := pairs_get hz
    obtain ⟨p, ws, e1, hl1, l1⟩ := lst_at r1 t ha st.1
    obtain ⟨p', ws', e1', hl2, l2⟩ := lst_at r2 t ha st.2
    cases e1; cases e1'
    obtain ⟨v, ev, rv⟩ := l1.get ex
    obtain ⟨u, eu, ru⟩ := l2.get ey
    refine ⟨⟨ws, ws', v, u, hl1, hl2, ev, eu⟩, fun q H' ⟨T, x', y', e1, e2, e3, e4, e5⟩ => ?_⟩
    subst e1 e3
    have g1 := e4 ws hl1
    have g2 := e5 ws' hl2
    rw [ev] at g1; rw [eu] at g2
    cases g1; cases g2
    exact ⟨Tk.new e2, rep2 e2 rv ru, ha.tup e2⟩
  · obtain ⟨p, ws, e1, hl1, l1⟩ := lst_at r1 t ha st.1
    obtain ⟨p', ws', e1', hl2, l2⟩ := lst_at r2 t ha st.2
    cases e1; cases e1'
    refine ⟨ws, ws', hl1, hl2, ?_⟩
    rw [pairs_len, ← l1.length, ← l2.length]
    omega
/-- the pairs of a count and an item -/
def counted (xs : List Dv) : List Dv := xs.mapIdx fun i x => .tup [.int i, x]
theorem counted_get {i : Nat} {z : Dv} (h : (counted xs)[i]? = some z) : ∃ x, xs[i]? = some x ∧ z = .tup [.int i, x] := by
  unfold counted at h
  rw [List.getElem?_mapIdx, Option.map_eq_some_iff] at h
  obtain ⟨x, h1, h2⟩ := h
  exact ⟨x, h1, h2.symm⟩
theorem counted_len : (counted xs).length = xs.length := by unfold counted; simp
theorem it_enumL {dx : Dv} (r1 : Rep K H0 (.ref a) dx) : ItD K H0 (Ite K a) (counted xs) (fun S => isL dx S xs) := by
  refine ⟨fun i H S z t ha st hz => ?_, fun H S t ha st => ?_⟩
  · obtain ⟨x, ex, rfl⟩ := counted_get hz
    obtain ⟨p, ws, e1, hl1, l1⟩ := lst_at r1 t ha st
    cases e1
    obtain ⟨v, ev, rv⟩ := l1.get ex
    refine ⟨⟨ws, v, hl1, ev⟩, fun q H' ⟨T, x', e1, e2, e3, e4⟩ => ?_⟩
    subst e1 e3
    have g1 := e4 ws hl1
    rw [ev] at g1
    cases g1
    exact ⟨Tk.new e2, rep2 e2 (.int _) rv, ha.tup e2⟩
  · obtain ⟨p, ws, e1, hl1, l1⟩ := lst_at r1 t ha st
    cases e1
    refine ⟨ws, hl1, ?_⟩
    rw [counted_len, ← l1.length]
    exact Nat.le_refl _
end
section
variable {X : Cx} {W : WX} {e e2 : Expr} {das : DA} {p pos tpos : Pos} {elts : List Expr} {kk : Nat}
def iZipD (das : DA) : DI := fun ρ S R X => das ρ S (fun ds S1 => match ds with
  | [.tup xs, .tup ys] => R (pairs xs ys) (fun _ => True) S1
  | [d, e] => lstOf d S1 fun xs => lstOf e S1 fun ys => R (pairs xs ys) (fun S => isL d S xs ∧ isL e S ys) S1
  | _ => False) X
theorem lstOf_imp {d : Dv} {S : Sto} {R R' : List Dv → Prop} (h : lstOf d S R) (i : ∀ xs, isL d S xs → R xs → R' xs) : lstOf d S R' := by
  unfold isL lstOf at i
  unfold lstOf at h ⊢
  split at h
  · exact i _ rfl h
  · split at h
    · rename_i hs
      simp only [hs] at i ⊢
      exact i _ rfl h
    · exact h.elim
  · exact h.elim
theorem lstOf_ex {d : Dv} {S : Sto} {R : List Dv → Prop} (h : lstOf d S R) : ∃ xs, isL d S xs ∧ R xs := by
  unfold isL
  unfold lstOf at h ⊢
  split at h
  · exact ⟨_, rfl, h⟩
  · split at h
    · rename_i hs
      simp only [hs]
      exact ⟨_, rfl, h⟩
    · exact h.elim
  · exact h.elim
theorem i_zip (hm : X.mg "zip" = none) (ha : PA X [e, e2] (lowA X.K W das)) (hg : Gl X "zip" := by rfl) (hs : starEach [e, e2] X.env = (false, eval e X.env) :: starEach [e2] X.env := by rfl) (hpl : (backTo pos (starEach [e2] X.env)).any (·.1) = false := by rfl) :
    PI X (.Tuple elts kk tpos) (.Call (.Name "zip" p) [e, e2] [] pos) (lowI X.K W (iZipD das)) := pii (RZ.pi_zipA hg hm ha hs hpl) fun σ H R ⟨ρ, S, Rh, Xh, hσ, hS, h, k, x⟩ => by
  refine ⟨ρ, S, _, Xh, hσ, hS, h, fun ds S1 vs H1 q t r a => ?_, x⟩
  dsimp only at q
  split at q
  · rename_i xs ys
    obtain ⟨v, u, rfl, r1, r2⟩ := two_i r
    obtain ⟨c, us, rfl, hc, lc⟩ := r1.i_tup
    obtain ⟨d, ws, rfl, hd, ld⟩ := r2.i_tup
    exact ⟨c, d, us, ws, rfl, .inr ⟨hc, hd, k _ _ S1 _ H1 q t a (it_zipT hc lc hd ld)⟩⟩
  · rename_i d1 d2 _
    obtain ⟨v, u, rfl, r1, r2⟩ := two_i r
    obtain ⟨xs, s1, q⟩ := lstOf_ex q
    obtain ⟨ys, s2, q⟩ := lstOf_ex q
    obtain ⟨c, us, rfl, hc, lc⟩ := lst_at r1 (Tk.refl H1) a s1
    obtain ⟨d, ws, rfl, hd, ld⟩ := lst_at r2 (Tk.refl H1) a s2
    exact ⟨c, d, us, ws, rfl, .inl ⟨hc, hd, k _ _ S1 _ H1 q t a (it_zipL r1 r2)⟩⟩
  · exact q.elim
def iEnumD (das : DA) : DI := fun ρ S R X => das ρ S (fun ds S1 => match ds with
  | [d] => lstOf d S1 fun xs => R (counted xs) (fun S => isL d S xs) S1
  | _ => False) X
theorem i_enumL (hm : X.mg "enumerate" = none) (ha : PA X [e] (lowA X.K W das)) (hg : Gl X "enumerate" := by rfl) (hs : starEach [e] X.env = [(false, eval e X.env)] := by rfl) :
    PI X (.Tuple elts kk tpos) (.Call (.Name "enumerate" p) [e] [] pos) (lowI X.K W (iEnumD das)) := pii (pi_enum hg hm ha hs) fun σ H R ⟨ρ, S, Rh, Xh, hσ, hS, h, k, x⟩ => by
  refine ⟨ρ, S, _, Xh, hσ, hS, h, fun ds S1 vs H1 q t r a => ?_, x⟩
  dsimp only at q
  split at q
  · obtain ⟨v, rfl, r1⟩ := one_i r
    obtain ⟨xs, s1, q⟩ := lstOf_ex q
    obtain ⟨c, us, rfl, hc, lc⟩ := lst_at r1 (Tk.refl H1) a s1
    exact ⟨c, us, rfl, hc, k _ _ S1 _ H1 q t a (it_enumL r1)⟩
  · exact q.elim
end
end VD

namespace VD
open PySem PySem.Spec PyProof.Rows L2
/-! ### try with except clauses (no names) -/
/-- which clause takes an exception: of each clause, the classes it is known to take or not -/
def wD : List (List (Value × Bool) × DS) → DEnds → Value → Option Addr → Rho → Sto → Prop
  | [], D, cls, da, ρ, S => D.ex cls da ρ S
  | (tab, s) :: r, D, cls, da, ρ, S => ∃ b, (cls, b) ∈ tab ∧ (b = true → s { D with ex := fun _ _ _ _ => False } ρ S) ∧ (b = false → wD r D cls da ρ S)
def dTry (b : DS) (l : List (List (Value × Bool) × DS)) : DS := fun D ρ S => b { D with ex := wD l D } ρ S
inductive HdsD (X : Cx) : List ExceptHandler → List (List (Value × Bool) × DS) → List (Value × (Addr → Value → Option Addr → TS)) → Prop
  | nil : HdsD X [] [] []
  | cons {x : Str} {c : Value} {s : DS} {tab : List (Value × Bool)} {b₀ : Stmt} {suite : List Stmt} {np pos' : Pos} {hds : List ExceptHandler} {l : List (List (Value × Bool) × DS)} {l' : List (Value × (Addr → Value → Option Addr → TS))}
      (hc : Names X x c) (ht : ∀ p ∈ tab, PySem.W.exmOne X.K p.1 c = some p.2) (hsu : ∀ (a : Addr) (pn : List (Addr × Obj)), PSs (X.suite a pn) (b₀ :: suite) (lowS X.K W0 s)) (r : HdsD X hds l l') :
      HdsD X (.ExceptHandler (some (.Name x np)) none (b₀ :: suite) pos' :: hds) ((tab, s) :: l) ((c, fun _ _ _ => lowS X.K W0 s) :: l')
theorem HdsD.ok {X : Cx} {hds : List ExceptHandler} {l : List (List (Value × Bool) × DS)} {l' : List (Value × (Addr → Value → Option Addr → TS))} (h : HdsD X hds l l') : HdsOk X hds l' := by
  induction h with
  | nil => exact .nil
  | cons hc ht hsu r ih => exact .cons hc (fun a oe cls d pn _ _ => hsu a _) ih
theorem HdsD.go {X : Cx} {W : WX} {H : Hp} {Dh : DEnds} {D : Ends} (k : LkS X.K W H Dh D) {hds : List ExceptHandler} {l : List (List (Value × Bool) × DS)} {l' : List (Value × (Addr → Value → Option Addr → TS))} (h : HdsD X hds l l') :
    ∀ cls da, LkG X.K H (wD l Dh cls da) (wMany X.K W D l' cls da) := by
  induction h with
  | nil => exact fun cls da => k.ex cls da
  | cons hc ht hsu r ih =>
    intro cls da ρ S σ' H' ⟨b, hb, hy, hn⟩ t rs a
    refine ⟨b, ht _ hb, fun e p hp => ⟨ρ, S, _, rs, a, hy e, ⟨k.nx.mono t, k.rt.mono t, k.bk.mono t, k.ct.mono t, fun _ _ _ _ _ _ q => q.elim⟩⟩, fun e => ih cls da ρ S σ' H' (hn e) t rs a⟩
theorem s_try {X : Cx} {W : WX} {body : List Stmt} {h₀ : ExceptHandler} {hds : List ExceptHandler} {b : DS} {l : List (List (Value × Bool) × DS)} {l' : List (Value × (Addr → Value → Option Addr → TS))} {pos : Pos} (tk : Takes X W)
    (hb : ∀ (W' : WX) (pn : List (Addr × Obj)) (xe : Value → Shared → Prop), Takes (X.tr pn xe) W' → PSs (X.tr pn xe) body (lowS X.K W' b)) (hh : HdsD X (h₀ :: hds) l l')
    (hs : X.stack = X.env :: X.outer := by rfl) (hf : X.env.frame = some X.env.locals := by rfl) : PS X (.Try body (h₀ :: hds) [] [] pos) (lowS X.K W (dTry b l)) :=
  psi (ps_try_many (tb := fun W' => lowS X.K W' b) hs hf tk (fun W' pn xe tk' _ => hb W' pn xe tk') hh.ok) fun D σ H ⟨ρ, S, Dh, hσ, hS, h, k⟩ =>
    ⟨ρ, S, { Dh with ex := wD l Dh }, hσ, hS, h, ⟨k.nx, k.rt, k.bk, k.ct, hh.go k⟩⟩
theorem nm_own {X : Cx} {x : Str} {c : Value} (h : X.mg x = some c) (hg : Gl X x := by rfl) (hd : (x == ("__debug__" : Str)) = false := by decide) : Names X x c := ⟨hg, hd, .inl h⟩
theorem tabs_nil {K : PySem.W.Frag} {c : Value} : ∀ p ∈ ([] : List (Value × Bool)), PySem.W.exmOne K p.1 c = some p.2 := fun _ h => by cases h
theorem tabs_cons {K : PySem.W.Frag} {c v : Value} {b : Bool} {tab : List (Value × Bool)} (h : PySem.W.exmOne K v c = some b) (r : ∀ p ∈ tab, PySem.W.exmOne K p.1 c = some p.2) : ∀ p ∈ (v, b) :: tab, PySem.W.exmOne K p.1 c = some p.2 := fun p hp => by
  rcases List.mem_cons.mp hp with rfl | hp
  · exact h
  · exact r p hp
theorem exm_mk {K : PySem.W.Frag} {S : Addr} {cls : Value} {b : Bool} (h1 : PySem.W.subIn K (.ref S) (.type "BaseException") = some true) (h2 : PySem.W.isClsIn K S = true) (h3 : PySem.W.typeIn K (.ref S) = some (.type "type")) (h4 : PySem.W.subIn K cls (.ref S) = some b) :
    PySem.W.exmOne K cls (.ref S) = some b := by
  have e1 : (PySem.W.subIn K (.ref S) (.type "BaseException") == some true) = true := by rw [h1] <;> rfl
  have e2 : ((PySem.W.clsIn K S).isSome && PySem.W.typeIn K (.ref S) == some (.type "type")) = true := by
    have h2' : (PySem.W.clsIn K S).isSome = true := h2
    rw [h2', h3] <;> rfl
  show (if (PySem.W.subIn K (.ref S) (.type "BaseException") == some true) = true then (if ((PySem.W.clsIn K S).isSome && PySem.W.typeIn K (.ref S) == some (.type "type")) = true then PySem.W.subIn K cls (.ref S) else none) else none) = some b
  rw [if_pos e1, if_pos e2]
  exact h4
/-! ### is True -/
def isBlV : Dv → Bool → Bool
  | .bl c, b => decide (c = b)
  | _, _ => false
def rdIsB (f : Bool → Bool) : RD2 := fun x y S Q => match y with
  | .bl b => Q (.bl (f (isBlV x b))) S
  | _ => False
section
variable {K : PySem.W.Frag} {X : Cx} {W : WX}
def vBl : V → Bool → Bool
  | .bl c, b => decide (c = b)
  | _, _ => false
def rIsBA : R2 := fun x y H Q => ∃ b, y = .bl b ∧ Q (.bl (vBl x b)) H
theorem op_isBA : OpR X (compareOp .Is) rIsBA := by
  intro pins s σ H x y v u Q I rx ry h
  obtain ⟨b, rfl, q⟩ := h
  cases (show u = Value.bool b from ry)
  cases x with
  | bl a => exact op_isBl pins s σ H (.bl a) (.bl b) _ _ Q I rx (show RelV (.bl b) (.bool b) from rfl) ⟨a, b, rfl, rfl, q⟩
  | ref a => cases rx; exact wpAny_is_other rfl (by intro z; cases z) ⟨.bl false, H, I, rfl, q⟩
  | non => cases rx; exact wpAny_is_other rfl (by intro z; cases z) ⟨.bl false, H, I, rfl, q⟩
  | int i => obtain ⟨t, rfl⟩ := rx; exact wpAny_is_other rfl (by intro z; cases z) ⟨.bl false, H, I, rfl, q⟩
  | str i => obtain ⟨t, rfl⟩ := rx; exact wpAny_is_other rfl (by intro z; cases z) ⟨.bl false, H, I, rfl, q⟩
  | byt i => obtain ⟨t, rfl⟩ := rx; exact wpAny_is_other rfl (by intro z; cases z) ⟨.bl false, H, I, rfl, q⟩
  | flt i => obtain ⟨t, rfl⟩ := rx; exact wpAny_is_other rfl (by intro z; cases z) ⟨.bl false, H, I, rfl, q⟩
  | ty n => cases rx; exact wpAny_is_other rfl (by intro z; cases z) ⟨.bl false, H, I, rfl, q⟩
theorem isBl_v {H : Hp} {x : V} {d : Dv} {b : Bool} (r : Rep K H x d) : vBl x b = isBlV d b := by
  cases r <;> rfl
theorem l_isB : LR2 K rIsBA (rdIsB fun b => b) := by
  intro x y H dx dy S Qh Q rx ry hS h k
  unfold rdIsB at h
  split at h
  · exact ⟨_, ry.i_bl, by rw [isBl_v rx]; exact k.now h (.bl _) hS⟩
  · exact h.elim
/-! ### str(i), int(z), z * i -/
def rdStrI : RDC := fun ds S Q => match ds with
  | [.int i] => i.natAbs.log2 < 1920 ∧ Q (.str (toString i)) S
  | _ => False
theorem l_strI : LRC K (fun xs H Q => ∃ i, xs = [.int i] ∧ i.natAbs.log2 < 1920 ∧ Q (.str (toString i)) H) rdStrI := by
  intro vs H ds S Qh Q r hS h k
  unfold rdStrI at h
  split at h
  · obtain ⟨v, rfl, rr⟩ := one_i r
    rw [rr.i_int]
    exact ⟨_, rfl, h.1, k.now h.2 (.str _) hS⟩
  · exact h.elim
def rdIntS : RDC := fun ds S Q => match ds with
  | [.str a] => ∃ n, PySem.intText? a = some n ∧ a.length ≤ 640 ∧ Q (.int n) S
  | _ => False
theorem l_intS : LRC K (fun xs H Q => ∃ a n, xs = [.str a] ∧ PySem.intText? a = some n ∧ a.length ≤ 640 ∧ Q (.int n) H) rdIntS := by
  intro vs H ds S Qh Q r hS h k
  unfold rdIntS at h
  split at h
  · obtain ⟨v, rfl, rr⟩ := one_i r
    rw [rr.i_str]
    obtain ⟨n, h1, h2, q⟩ := h
    exact ⟨_, n, rfl, h1, h2, k.now q (.int _) hS⟩
  · exact h.elim
def repStr (z : Str) (n : Int) : Str := ⟨(List.replicate n.toNat z.cps).foldl (· ++ ·) #[]⟩
def rdMulS : RD2 := fun x y S Q => match x, y with
  | .str z, .int n => (2 ≤ n ∧ n ≤ 1000 ∧ 0 < z.length ∧ z.length ≤ 1000) ∧ Q (.str (repStr z n)) S
  | _, _ => False
/-! ### dicts written out -/
def dDict0 : DE := fun ρ S Q _ => ∀ p, S p = none → Q (.ref p) (put S p (.dK []))
theorem d_dict0 {pos : Pos} : PE X (.Dict [] [] pos) (low X.K W dDict0) := pei pe_dnewK fun σ H Q ⟨ρ, S, Qh, Xh, hσ, hS, h, k, x⟩ p hp =>
  k _ _ _ _ (h p (hS.free hp)) (Tk.new hp) (.ref p) (hS.new hp (.mdK upd_same .nil))
/-- one pair -/
def dDict1 (dk dv : DE) : DE := fun ρ S Q X => ∀ p, S p = none → dk ρ (put S p (.dK [])) (fun x S1 => dv ρ S1 (fun y S2 => S2 p = some (.dK []) ∧ match x with
  | .str z => Q (.ref p) (put S2 p (.dK [(.inr z, y)]))
  | .int z => Q (.ref p) (put S2 p (.dK [(.inl z, y)]))
  | _ => False) X) X
theorem d_dict1 {pos : Pos} {ek ev : Expr} {dk dv : DE} (hk : PE X ek (low X.K W dk)) (hv : PE X ev (low X.K W dv)) : PE X (.Dict [some ek] [ev] pos) (low X.K W (dDict1 dk dv)) :=
  pei (pe_disp (pps_cons hk hv pps_nil) rfl rfl (by simp) (by simp)) fun σ H Q ⟨ρ, S, Qh, Xh, hσ, hS, h, k, x⟩ p hp => by
    have t0 : Tk X.K H (upd H p (.dK [])) := Tk.new hp
    refine ⟨ρ, _, _, Xh, hσ.mono t0, hS.new hp (.mdK upd_same .nil), h p (hS.free hp), fun d1 S1 v1 H1 q1 t1 r1 a1 => ?_, x.mono t0⟩
    refine ⟨ρ, S1, _, Xh, hσ.mono (t0.trans t1), a1, q1, fun d2 S2 v2 H2 q2 t2 r2 a2 => ?_, x.mono (t0.trans t1)⟩
    obtain ⟨e, q2⟩ := q2
    obtain ⟨gs, e1, e2⟩ := a2 p _ e
    cases e2
    have t3 : Tk X.K H2 (upd H2 p (.dK [])) := Tk.write e1 wr_dK
    have fin : ∀ z : Key, Qh (.ref p) (put S2 p (.dK [(z, d2)])) → Q (.ref p) (upd H2 p (.dK (mergeK [] [(z, v2)]))) := fun z q => by
      have t4 : Tk X.K H2 (upd H2 p (.dK (mergeK [] [(z, v2)]))) := Tk.write e1 wr_dK
      exact k _ _ _ _ q (((t0.trans t1).trans t2).trans t4) (.ref p) (a2.write e1 wr_dK (.mdK upd_same (.cons ⟨rfl, r2.mono t4⟩ .nil)))
    cases d1 with
    | str z =>
      have e5 := (r1.mono t2).i_str
      subst e5
      exact ⟨e1, [(.inr z, v2)], rfl, by simp, fin _ q2⟩
    | int z =>
      have e5 := (r1.mono t2).i_int
      subst e5
      exact ⟨e1, [(.inl z, v2)], rfl, by simp, fin _ q2⟩
    | _ => exact q2.elim
def rMulS : R2 := fun x y H Q => ∃ z n, x = .str z ∧ y = .int n ∧ (2 ≤ n ∧ n ≤ 1000 ∧ 0 < z.length ∧ z.length ≤ 1000) ∧ Q (.str (repStr z n)) H
theorem op_mulS : OpR X (binaryOp .Mult) rMulS := by
  intro pins s σ H x y v u Q I rx ry h
  obtain ⟨z, n, rfl, rfl, ⟨h1, h2, h3, h4⟩, q⟩ := h
  obtain ⟨t, rfl⟩ := rx
  obtain ⟨t2, rfl⟩ := ry
  have c : (n == 1 || z.length == 0) = false := by
    rw [Bool.or_eq_false_iff]
    exact ⟨by simp; omega, by simp; omega⟩
  have hlen : z.length * n.toNat ≤ 1000 * 1000 := Nat.mul_le_mul h4 (by omega)
  refine P.mul_str ?_ (fun _ _ => ?_) (fun _ _ => ?_) ?_
  · rw [decide_eq_false (by omega), decide_eq_false (by omega)]; rfl
  · have : (1000 : Int) ≤ (2 ^ 63 - 1 : Int) / n := Int.le_ediv_of_mul_le (by omega) (by omega)
    omega
  · unfold Builtin.Str.tooLong
    rw [decide_eq_false]
    rw [sizeLine_eq]
    omega
  · rw [if_neg (by omega), if_neg (by rw [c]; decide)]
    have hl : ∀ (k : Nat) (acc : Array Nat), ((List.replicate k z.cps).foldl (· ++ ·) acc).size = acc.size + k * z.cps.size := by
      intro k
      induction k with
      | zero => intro acc; simp
      | succ k ih => intro acc; rw [List.replicate_succ, List.foldl_cons, ih]; simp [Nat.add_mul]; omega
    refine ⟨?_, .str (repStr z n), H, I.tok _, ⟨_, rfl⟩, q⟩
    show (((List.replicate n.toNat z.cps).foldl (· ++ ·) #[]).size : Nat) ≤ sizeLine
    rw [hl, sizeLine_eq]
    have : n.toNat * z.cps.size ≤ 1000 * 1000 := Nat.mul_le_mul (by omega) h4
    simp
    omega
theorem l_mulS : LR2 K rMulS rdMulS := by
  intro x y H dx dy S Qh Q rx ry hS h k
  unfold rdMulS at h
  split at h
  · exact ⟨_, _, rx.i_str, ry.i_int, h.1, k.now h.2 (.str _) hS⟩
  · exact h.elim
end
end VD

namespace VD
open PySem PySem.Spec PyProof.Rows L2
theorem ve_base : PySem.HandSPX.refsVE [.type "ValueError", .type "Exception", .type "BaseException", .type "object"] = true := by decide +kernel
theorem ve_step {a : Addr} {r : List Value} (h : PySem.HandSPX.refsVE r = true) : PySem.HandSPX.refsVE (.ref a :: r) = true := h
/-! ### own exceptions with one field -/
def spInit (C : Addr) (f : Str) : Sp := fun vs H Q _ => ∃ a v, vs = [.ref a, v] ∧ H a = some (exo a C none) ∧ ∀ dx, H dx = none → dx ≠ a → Q .non (upd (upd H dx (exd dx [(f, v)])) a (exo a C (some dx)))
theorem okInit {P : Program} {w : World} {K : PySem.W.Frag} {mg : Str → Option Value} {base : Heap} {x qual : Str} {st : Stmt} {g C : Addr} {fd : FuncData} {p1 p2 f : Str} (F : Fun K x qual st g fd) (Sc : FnScope [p1, p2] [p1, p2] (defScope st)) (T : OexC K C) (hno : PySem.W.findIn K (.ref C) f = some none)
    (hb : ∀ (cdv : Value) (A : Around) (outer : List Env) (s : Shared) (H : Hp) (E : XK), Room 0 (A.deeper (envOfC qual (defScope st) s.heap.objs.size g cdv)) →
      PSs (cxOf (L2.CX P w) P w K mg base [p1, p2] qual (defScope st) g cdv A outer s H E) (defBody st) (tOst K f (tVar 0) (tVar 1))) : FnOk P w K mg base (L2.CX P w) 1 g fd [p1, p2] (spInit C f) := by
  refine Fun.okX F Sc (fun vs H Q E ⟨a, v, e, _⟩ => by rw [e]; rfl) fun cdv A outer s H vs Q E hr' ⟨a, v, e, ea, q⟩ => ?_
  subst e
  exact ⟨_, hb cdv A outer s H E hr', v, rfl, .ref a, rfl, a, C, rfl, T, hno, .inl ⟨ea, fun dx n ne => q dx n ne⟩⟩
def dRaiseF (cls : Value) (f : Str) (das : DA) : DS := fun D ρ S => das ρ S (fun ds S1 => match ds with
  | [d] => ∀ dx, S1 dx = none → D.ex cls (some dx) ρ (put S1 dx (.xd [(f, d)]))
  | _ => False) (D.xd ρ)
section
variable {X : Cx} {W : WX}
theorem s_raise1 {x f : Str} {C fI : Addr} {k : Nat} {fd : FuncData} {ps : List Str} {e : Expr} {das : DA} {p pos' pos : Pos} (hc : X.calm = true) (tk : Takes X W) (T : OexC X.K C) (iC : PySem.W.findIn X.K (.ref C) "__init__" = some (some (.ref fI)))
    (tI : PySem.W.typeIn X.K (.ref fI) = some (.type "function")) (F1 : FnOk X.prog X.w X.K X.mg X.base (L2.CX X.prog X.w) k fI fd ps (spInit C f)) (hr : RoomG (k + 1) X.A) (hb : Binds X.K fd ps []) (gC : X.mg x = some (.ref C)) (ha : PA X [e] (lowA X.K W das)) (hg : Gl X x := by rfl)
    (hdb : (x == ("__debug__" : Str)) = false := by decide) (he : starEach [e] X.env = (false, eval e X.env) :: starEach [] X.env := by rfl) (hpl : (backTo pos' (starEach [] X.env)).any (·.1) = false := by rfl) :
    PS X (.Raise (some (.Call (.Name x p) [e] [] pos')) none pos) (lowS X.K W (dRaiseF (.ref C) f das)) :=
  psi (ps_raise hc tk (pmk_oex (dvs := []) (ds := []) T iC tI F1 hr.r hb .nil (passes_call tk fun _ _ _ _ h => h.elim) hg gC ha hdb he hpl)) fun D σ H ⟨ρ, S, Dh, hσ, hS, h, k⟩ => by
    refine ⟨ρ, S, _, _, hσ, hS, h, fun ds S1 vs H1 q t r a => ?_, k.lx hσ⟩
    match ds, q, r with
    | [d], q, r =>
      obtain ⟨v, rfl, rv⟩ := one_i r
      refine ⟨by simp, fun e1 n1 => ⟨e1, v, rfl, upd_same, fun dx nd ne => ?_⟩⟩
      have nd1 : H1 dx = none := by rw [upd_ne ne] at nd; exact nd
      refine ⟨rfl, dx, [(f, v)], upd_same, ?_, nd1, ?_⟩
      · rw [upd_ne ne]; exact upd_same
      · have eH : upd (del (upd (upd (upd H1 e1 (exo e1 C none)) dx (exd dx [(f, v)])) e1 (exo e1 C (some dx))) e1) dx (.xd [(f, v)]) = upd H1 dx (.xd [(f, v)]) := by
          funext b
          by_cases h1 : b = dx
          · subst h1; rw [upd_same, upd_same]
          · rw [upd_ne h1, upd_ne h1]
            by_cases h2 : b = e1
            · subst h2; rw [del_same, n1]
            · rw [del_ne h2, upd_ne h2, upd_ne h1, upd_ne h2]
        rw [eH]
        have t2 : Tk X.K H1 (upd H1 dx (.xd [(f, v)])) := Tk.new nd1
        exact k.ex _ _ ρ _ σ _ (q dx (a.free nd1)) (t.trans t2) (hσ.mono (t.trans t2)) (a.new nd1 (.mxd upd_same (.cons ⟨rfl, rv.mono t2⟩ .nil)))
    | [], q, _ => exact q.elim
    | _ :: _ :: _, q, _ => exact q.elim
/-- error.f in a suite -/
def dXf (a : Addr) (cls : Value) (da : Option Addr) (C : Addr) (f : Str) (de : DE) : DE := fun ρ S Q X => de ρ S (fun x S1 => x = .ref a ∧ cls = .ref C ∧ ∃ dd fs v, da = some dd ∧ S1 dd = some (.xd fs) ∧ fs.lookup f = some v ∧ Q v S1) X
theorem lookF {K : PySem.W.Frag} {H : Hp} {f : Str} {d : Dv} : ∀ {gs : List (Str × V)} {fs : List (Str × Dv)}, RepF K H gs fs → fs.lookup f = some d → ∃ v, gs.lookup f = some v ∧ Rep K H v d
  | _, _, .nil, e => by cases e
  | (g, v) :: gs, (g', d') :: fs, .cons ⟨e1, r⟩ t, e => by
    dsimp only at e1 r
    subst e1
    rw [List.lookup_cons] at e ⊢
    cases h : f == g with
    | true =>
      rw [h] at e
      cases e
      exact ⟨v, rfl, r⟩
    | false =>
      rw [h] at e
      exact lookF t e
theorem d_xf {a C : Addr} {oe : Obj} {cls : Value} {da : Option Addr} {pn : List (Addr × Obj)} {e : Expr} {de : DE} {pos : Pos} {n : Str} (T : XfC X.K C) (hno : PySem.W.findIn X.K (.ref C) n = some none)
    (hz : Zc cls da oe) (hf : ∃ vs, oe.data = .fields vs) (he : PE (X.suite a ((a, oe) :: pn)) e (low X.K W de)) (hb : attributeBase e n X.env (eval e X.env) = eval e X.env := by rfl) :
    PE (X.suite a ((a, oe) :: pn)) (.Attribute e n pos) (low X.K W (dXf a cls da C n de)) :=
  pei (pe_xf T hno hz hf he hb) fun σ H Q ⟨ρ, S, Qh, Xh, hσ, hS, h, k, x⟩ => ⟨ρ, S, _, Xh, hσ, hS, h, fun d1 S1 v1 H1 q1 t1 r1 a1 => by
    obtain ⟨e1, e2, dd, fs, v, e3, e4, e5, q⟩ := q1
    subst e1
    obtain ⟨gs, g1, g2⟩ := a1 dd _ e4
    obtain ⟨u, u1, u2⟩ := lookF g2 e5
    exact ⟨r1.i_ref, e2, dd, gs, u, e3, g1, u1, k v S1 u H1 q t1 u2 a1⟩, x⟩
end
end VD

namespace VD
open PySem PySem.Spec PyProof.Rows L2
/-! ### try, the first clause with a name and taking every exception of the body; what other clauses follow is all one -/
def offSlot (i : Nat) (D : Ends) : Ends := { nx := fun σ H => D.nx (σ.set i none) H, rt := D.rt, bk := fun σ H => D.bk (σ.set i none) H, ct := fun σ H => D.ct (σ.set i none) H }
def wTake (K : PySem.W.Frag) (c : Value) (i : Nat) (ts : Addr → Value → Option Addr → TS) (D : Ends) : WX := fun cls d σ H =>
  PySem.W.exmOne K cls c = some true ∧ ∀ a, H a = none → ts a cls d (offSlot i D) (σ.set i (some (.ref a))) H
section
variable {X : Cx} {x n : Str} {c : Value} {i : Nat} {bd su : List Stmt} {s₁ : Stmt} {np p1 p2 : Pos} {others : List ExceptHandler} {tb : WX → TS} {ts : Addr → Value → Option Addr → TS}
/-- an exception's object is no frame -/
theorem no_frame {B g : Heap} {a : Addr} {o : Obj} {vs : Array Value} (ff : g.FunFrames B (X.env :: X.outer)) (e : g.get? a = some o) (d : o.data = .fields vs) : a ∉ frs (X.env :: X.outer) := fun hm => by
  obtain ⟨_, o2, e2, nf⟩ := ff.mem hm
  cases e.symm.trans e2
  exact nf _ d
theorem ps_take (hs : X.stack = X.env :: X.outer) (hf : X.env.frame = some X.env.locals) (hN : X.N.Nodup) (hi : X.N[i]? = some n) (hln : X.env.kindOf n = some .local) (hc : Names X x c)
    (hb : ∀ (W : WX) (pn : List (Addr × Obj)) (xe : Value → Shared → Prop), Takes (X.tr pn xe) W → PSs (X.tr pn xe) bd (tb W))
    (hsu : ∀ (a : Addr) (oe : Obj) (cls : Value) (d : Option Addr) (pn : List (Addr × Obj)), Zc cls d oe → (∃ vs, oe.data = .fields vs) → PSs (X.suite a ((a, oe) :: pn)) (s₁ :: su) (ts a cls d)) :
    PS X (.Try bd (.ExceptHandler (some (.Name x np)) (some n) (s₁ :: su) p2 :: others) [] [] p1) (fun D σ H => tb (wTake X.K c i ts D) D σ H) := by
  refine ⟨fun pins s σ H D I start => wpAny_Try_except ?_⟩
  have ok := I.ok
  have frames : X.A.frames = some (X.env :: X.outer) := by rw [ok.frames, hs]
  let rest := (.ExceptHandler (some (.Name x np)) (some n) (s₁ :: su) p2 : ExceptHandler) :: others
  let go : Value → Shared → Prop := fun e sa => wpAny (model X.prog X.w) X.A (noteFrame e X.env)
    (fun _ sb => wpAny (model X.prog X.w) X.A (setFlight e none) (fun _ sc => wpAny (model X.prog X.w) X.A (handleBy e X.env rest) (SP X pins D) X.xe sc) X.xe sb) X.xe sa
  have caught : Takes (X.tr (X.pn ++ pins) go) (wTake X.K c i ts D) := by
    intro u sz q
    obtain ⟨a, B, sI, pins2, σ2, H2, cls, d, rfl, J0, nb, up, sky, na, os, ag, match_, wish⟩ := q
    have J : Inv X pins σ2 H2 sI := J0.ofTry ok
    have sky2 : Sky B (X.env :: X.outer) a (Zc cls d) X.env.locals sz.heap := by rw [← hs]; exact sky
    show wpAny (model X.prog X.w) X.A (noteFrame (.ref a) X.env) _ _ _
    refine Sky.land Zc.steady frames hf sky2 fun g fly up2 => ?_
    have J1 : Inv X pins σ2 H2 { sz with heap := g } := J.landed nb fly.1 (up.trans up2) os ag
    obtain ⟨o1, v1, there1, z1, dat1⟩ := fly.there
    have far := no_frame fly.2.2.1 there1 dat1
    have notL : a ≠ X.env.locals := fun z => far (List.mem_filterMap.mpr ⟨X.env, List.mem_cons_self, by rw [hf, z]⟩)
    have notF : a ∉ X.fs := fun hm => by
      obtain ⟨e, he, w⟩ := List.mem_filterMap.mp hm
      exact far (List.mem_filterMap.mpr ⟨e, List.mem_cons_of_mem _ he, w⟩)
    have S1 := J1.suite there1 dat1 na notL notF
    refine wpAny_handleBy_cons (codeAny_handlers_test ?_) (by intro w; cases w)
    have typ : PySem.W.Looks (model X.prog X.w) g (typeOf (.ref a)) cls := fun A Q E sq keep w => wpAny_typeOf_ref (keep _ _ there1) (by rw [z1.1]; exact w)
    have looks := PySem.W.exm_one (M := model X.prog X.w) (J1.kIn) typ match_
    have named : ∀ {Q : Value → Shared → Prop} {E : Value → Shared → Prop}, Q c { sz with heap := g } → wpAny (model X.prog X.w) (X.A.mark (some (.ref a))) (eval (.Name x np) X.env) Q E { sz with heap := g } := by
      intro Q E w
      obtain ⟨hg, hd, hm | ⟨hm, hv, hn⟩⟩ := hc
      · exact ld_glob (X := X.suite a ((a, o1) :: (X.pn ++ pins))) S1 hg hm w hd
      · exact ld_blt (X := X.suite a ((a, o1) :: (X.pn ++ pins))) S1 hg hm hv w hn hd
    refine named (looks.here (codeAny_handlers_suite_as (HandSPX.lands_againZ fly fun g2 fly2 up3 => ?_)))
    have J2 : Inv X pins σ2 H2 { sz with heap := g2 } := J.landed nb fly2.1 ((up.trans up2).trans up3) os ag
    obtain ⟨o2, v2, there2, z2, dat2⟩ := fly2.there
    have S2 := J2.suite there2 dat2 na notL notF
    refine store_ok (X := X.suite a ((a, o2) :: (X.pn ++ pins))) (v := .ref a) S2 hN hi (.inl hln) rfl (fun s5 S5 => ?_) (.inr hln)
    refine wpAny_mono ((hsu a o2 cls d (X.pn ++ pins) z2 ⟨_, dat2⟩).run [] s5 _ H2 _ S5 (wish a na)) (fun f s6 ends => ?_) (fun _ _ z => z.elim)
    have drop : ∀ {σ6 : L2.St} {H6 : Hp} {Q : Shared → Prop}, Inv (X.suite a ((a, o2) :: (X.pn ++ pins))) [] σ6 H6 s6 → (∀ s7, Inv X pins (σ6.set i none) H6 s7 → Q s7) →
        wpAny (model X.prog X.w) X.A (do bindName X.env n .none; unbindBehindTheSuite X.env n p2) (fun _ s7 => Q s7) X.xe s6 := fun S6 w => gone_ok (S6.unsuite ok) hN hi hln w
    cases f with
    | ret u => obtain ⟨v6, σ6, H6, S6, r6, w6⟩ := ends; exact drop S6 fun s7 J7 => ⟨_, _, _, J7, r6, w6⟩
    | next => obtain ⟨σ6, H6, S6, w6⟩ := ends; exact drop S6 fun s7 J7 => ⟨_, _, J7, w6⟩
    | brk => obtain ⟨σ6, H6, S6, w6⟩ := ends; exact drop S6 fun s7 J7 => ⟨_, _, J7, w6⟩
    | cont => obtain ⟨σ6, H6, S6, w6⟩ := ends; exact drop S6 fun s7 J7 => ⟨_, _, J7, w6⟩
  refine wpAny_mono ((hb _ _ go caught).run [] s σ H D (I.toTry _) start) (fun f sf ends => ?_) (fun e se he => he)
  cases f with
  | ret u => obtain ⟨v, σ3, H3, J3, r, w⟩ := ends; exact ⟨v, σ3, H3, J3.ofTry ok, r, w⟩
  | next => obtain ⟨σ3, H3, J3, w⟩ := ends; exact wpAny_execs_nil ⟨σ3, H3, J3.ofTry ok, w⟩
  | brk => obtain ⟨σ3, H3, J3, w⟩ := ends; exact ⟨σ3, H3, J3.ofTry ok, w⟩
  | cont => obtain ⟨σ3, H3, J3, w⟩ := ends; exact ⟨σ3, H3, J3.ofTry ok, w⟩
end
/-- over plain data -/
def offD (i : Nat) (D : DEnds) : DEnds := { nx := fun ρ S => D.nx (ρ.set i none) S, rt := D.rt, bk := fun ρ S => D.bk (ρ.set i none) S, ct := fun ρ S => D.ct (ρ.set i none) S }
def exTake (i : Nat) (tab : List (Value × Bool)) (s : Addr → Value → Option Addr → DS) (D : DEnds) (cls : Value) (da : Option Addr) (ρ : Rho) (S : Sto) : Prop := (cls, true) ∈ tab ∧ ∀ a, S a = none → s a cls da (offD i D) (ρ.set i (some (.ref a))) S
def dTake (b : DS) (i : Nat) (tab : List (Value × Bool)) (s : Addr → Value → Option Addr → DS) : DS := fun D ρ S => b { D with ex := exTake i tab s D } ρ S
theorem s_take (i : Nat) {X : Cx} {W : WX} {x n : Str} {c : Value} {bd su : List Stmt} {s₁ : Stmt} {np p1 p2 : Pos} {others : List ExceptHandler} {b : DS} {tab : List (Value × Bool)} {s : Addr → Value → Option Addr → DS} (hN : X.N.Nodup) (hc : Names X x c) (ht : ∀ p ∈ tab, PySem.W.exmOne X.K p.1 c = some p.2)
    (hb : ∀ (W' : WX) (pn : List (Addr × Obj)) (xe : Value → Shared → Prop), Takes (X.tr pn xe) W' → PSs (X.tr pn xe) bd (lowS X.K W' b))
    (hsu : ∀ (a : Addr) (oe : Obj) (cls : Value) (d : Option Addr) (pn : List (Addr × Obj)), Zc cls d oe → (∃ vs, oe.data = .fields vs) → PSs (X.suite a ((a, oe) :: pn)) (s₁ :: su) (lowS X.K W0 (s a cls d)))
    (hi : X.N[i]? = some n := by rfl) (hln : X.env.kindOf n = some .local := by rfl) (hs : X.stack = X.env :: X.outer := by rfl) (hf : X.env.frame = some X.env.locals := by rfl) :
    PS X (.Try bd (.ExceptHandler (some (.Name x np)) (some n) (s₁ :: su) p2 :: others) [] [] p1) (lowS X.K W (dTake b i tab s)) :=
  psi (ps_take (tb := fun W' => lowS X.K W' b) (ts := fun a cls d => lowS X.K W0 (s a cls d)) hs hf hN hi hln hc hb hsu) fun D σ H ⟨ρ, S, Dh, hσ, hS, h, k⟩ =>
    ⟨ρ, S, { Dh with ex := exTake i tab s Dh }, hσ, hS, h, ⟨k.nx, k.rt, k.bk, k.ct, fun cls da ρ' S' σ' H' ⟨q1, q2⟩ t r a => ⟨ht _ q1, fun e ne => ⟨_, S', _, r.set i (.ref e), a, q2 e (a.free ne),
      ⟨fun ρ2 S2 σ2 H2 q t2 r2 a2 => k.nx _ S2 _ H2 q (t.trans t2) (r2.setN i) a2, k.rt.mono t, fun ρ2 S2 σ2 H2 q t2 r2 a2 => k.bk _ S2 _ H2 q (t.trans t2) (r2.setN i) a2, fun ρ2 S2 σ2 H2 q t2 r2 a2 => k.ct _ S2 _ H2 q (t.trans t2) (r2.setN i) a2, fun _ _ _ _ _ _ q => q.elim⟩⟩⟩⟩⟩
end VD

namespace VD
open PySem PySem.Spec PyProof.Rows L2
/-! ### xs.extend(ys), ys a tuple or a list -/
theorem list_extendS (l : Addr) (its : Array Value) (n : Nat) (b : Addr) (more : Array Value) (n2 : Nat) (dd : Option Addr) (sl : Array (Option Value)) (h0 : ¬(!its.isEmpty && Builtin.List.listTooLong (its.size + more.size)) = true) (h1 : its.size ≤ sizeLine) (h2 : its.size + more.size ≤ sizeLine + 1) :
    Meets (Builtin.«list.extend» ⟨[.ref l, .ref b], []⟩) (fun _ R s => s.heap.get? l = some { cls := .type "list", dict := none, data := .seq its n, slots := #[] } ∧ s.heap.get? b = some { cls := .type "tuple", dict := dd, data := .seq more n2, slots := sl } ∧
      R (.ok (.ret Value.none)) { s with heap := s.heap.update l (Obj.mapSeq fun x => x ++ more), toks := s.toks }) :=
  .of_wp fun prog w A R s h => by
    obtain ⟨hp, g, d, tk, os⟩ := s
    obtain ⟨hl, hb, h⟩ := h
    have f1 := AutoSeq1.idx_int
    have f2 := AutoSeq1.sub_tuple_tuple
    have f3 := AutoSeq1.sub_list_list
    have f4 := AutoSeq1.sub_tuple_list
    have f5 := AutoSeq1.sub_list_tuple
    have hz : (its ++ more).size ≤ sizeLine + 1 := by rw [Array.size_append]; exact h2
    wp_walk using (wpAny_updateSeq hl rfl (hz := h1) (_hz' := hz)), wpAny_loadPart' hl, wpAny_loadPart' hb
    exact ⟨_, rfl, h⟩
def rExtT (K : PySem.W.Frag) : V → List V → Hp → VK → Prop := fun x vs H Q => ∃ l b xs zs, x = .ref l ∧ vs = [.ref b] ∧ H l = some (.lst xs) ∧ SqT K H b zs ∧ xs.length + zs.length ≤ sizeLine ∧ Q .non (upd H l (.lst (xs ++ zs)))
section
variable {X : Cx} {K : PySem.W.Frag}
theorem mt_extT : MtR X "list.extend" (rExtT X.K) := by
  intro pins s σ H x vs v us Q I rx rv h
  obtain ⟨l, b, xs, zs, rfl, rfl, hH, hB, hz, q⟩ := h
  cases rx
  obtain ⟨u, rfl, ru⟩ := rv.one
  cases ru
  obtain ⟨z, its, n, r, hl, e⟩ := I.lstM hH
  obtain ⟨more, r2, ⟨⟨cls, dd, data, sl⟩, e2, hc, n2, hd⟩, _⟩ := I.tuple hB
  simp only at hc hd
  subst hc hd
  have hl2 := r2.length
  have few : its.toArray.size + more.toArray.size ≤ sizeLine := by rw [List.size_toArray, List.size_toArray]; omega
  have short : ¬ (!its.toArray.isEmpty && Builtin.List.listTooLong (its.toArray.size + more.toArray.size)) = true := by
    rw [notLongL few, Bool.and_false]
    exact Bool.false_ne_true
  refine call_meets F.slot_list_extend ⟨_, e, rfl⟩ F.entry_list_extend (F.args_list_extend_2 _ _) (list_extendS l its.toArray n b more.toArray n2 dd sl short (by rw [List.size_toArray]; omega) (by omega)) ⟨e, e2, ?_⟩
  refine ⟨.non, _, I.lset (its' := its ++ more) hH e (by simp) (r.append r2) ?_, rfl, q⟩
  rw [List.length_append]
  exact hz
def rdExtend : RDM := fun x ds S Q => match x, ds with
  | .ref a, [.tup ys] => match S a with
    | some (.lst xs) => xs.length + ys.length ≤ sizeLine ∧ Q .non (put S a (.lst (xs ++ ys)))
    | _ => False
  | .ref a, [.ref b] => match S a, S b with
    | some (.lst xs), some (.lst ys) => xs.length + ys.length ≤ sizeLine ∧ Q .non (put S a (.lst (xs ++ ys)))
    | _, _ => False
  | _, _ => False
theorem mt_extA : MtR X "list.extend" (fun x vs H Q => rExtT X.K x vs H Q ∨ rExtend x vs H Q) := MtR.or mt_extT mt_extend
theorem l_extend : LRM K (fun x vs H Q => rExtT K x vs H Q ∨ rExtend x vs H Q) rdExtend := by
  intro x vs H d ds S Qh Q rx r hS h k
  unfold rdExtend at h
  split at h
  · rename_i a ys
    obtain ⟨v, rfl, r1⟩ := one_i r
    obtain ⟨b, zs, rfl, hb, lb⟩ := r1.i_tup
    split at h
    · rename_i xs ea
      obtain ⟨us, h1, l⟩ := hS _ _ ea
      have tw : Tk K H (upd H a (.lst (us ++ zs))) := Tk.write h1 wr_lst
      exact .inl ⟨a, b, us, zs, rx.i_ref, rfl, h1, hb, by rw [l.length, lb.length]; exact h.1, k _ _ _ _ h.2 tw .non (hS.write h1 wr_lst (.mlst upd_same ((l.mono tw).append (lb.mono tw))))⟩
    · exact h.elim
  · rename_i a b
    obtain ⟨v, rfl, r1⟩ := one_i r
    split at h
    · rename_i xs ys ea eb
      obtain ⟨us, h1, l⟩ := hS _ _ ea
      obtain ⟨zs, h2, lb⟩ := hS _ _ eb
      have tw : Tk K H (upd H a (.lst (us ++ zs))) := Tk.write h1 wr_lst
      rw [r1.i_ref]
      exact .inr ⟨a, b, us, zs, rx.i_ref, rfl, h1, h2, by rw [l.length, lb.length]; exact h.1, k _ _ _ _ h.2 tw .non (hS.write h1 wr_lst (.mlst upd_same ((l.mono tw).append (lb.mono tw))))⟩
    · exact h.elim
  · exact h.elim
end
end VD

namespace VD
open PySem PySem.Spec PyProof.Rows L2
/-! ### lists by value -/
def FZ (v : V) (H1 : Hp) (Q : VK) : Prop := Q v H1 ∨ ∃ a u, v = .ref a ∧ H1 a = some u ∧ canFrz u = true ∧ ∀ o, Q v (upd H1 a (.frz o u))
section
variable {K : PySem.W.Frag} {H H1 : Hp} {S : Sto} {Qh : QD} {Q : VK} {p : Addr}
theorem tk_frz {u : HO} {o : Obj} (hp : H p = none) : Tk K H (upd (upd H p u) p (.frz o u)) := by
  rw [upd_upd]; exact Tk.new hp
/-- a new list that is frozen at once -/
theorem Lk.frzL (k : Lk K H Qh Q) {vs : List V} {ds : List Dv} (q : Qh (.rol ds) S) (hp : H p = none) (r : RepL K H vs ds) (a : Abs K H S) : FZ (.ref p) (upd H p (.lst vs)) Q := by
  refine .inr ⟨p, _, rfl, upd_same, rfl, fun o => ?_⟩
  have t : Tk K H (upd (upd H p (.lst vs)) p (.frz o (.lst vs))) := tk_frz hp
  refine k _ S _ _ q t (.rol (.inl ⟨o, upd_same⟩) (r.mono t)) fun b m hb => ?_
  refine (a b m hb).mono t fun z hz => ?_
  rw [upd_upd, upd_ne (ne_of_none hz hp)]
  exact hz
end
section
variable {X : Cx} {W : WX} {a b c e : Expr} {da db dc de : DE} {pos p : Pos} {es : List Expr} {das : DA} {x : Str} {id T : String}
theorem pe_fz {x : Expr} {t : TE} (h : PE X x t) : PE X x (fun σ H Q => t σ H fun v H1 => FZ v H1 Q) := pe_frz h
def dLstV (das : DA) : DE := fun ρ S Q X => das ρ S (fun ds S1 => ds.length ≤ sizeLine ∧ Q (.rol ds) S1) X
theorem d_lstV (h : PA X es (lowA X.K W das)) : PE X (.List es pos) (low X.K W (dLstV das)) := pei (pe_fz (pe_lst h)) fun σ H Q ⟨ρ, S, Qh, Xh, hσ, hS, h, k, x⟩ =>
  ⟨ρ, S, _, Xh, hσ, hS, h, fun ds S1 vs H1 q1 t1 r1 a1 => ⟨by rw [r1.length]; exact q1.1, fun p hp => (k.mono t1).frzL q1.2 hp r1 a1⟩, x⟩
/-- a two-place operator whose new list is frozen -/
def LR2V (K : PySem.W.Frag) (r : R2) (rd : RD2) : Prop := ∀ x y H dx dy S Qh Q, Rep K H x dx → Rep K H y dy → Abs K H S → rd dx dy S Qh → Lk K H Qh Q → r x y H fun v H1 => FZ v H1 Q
theorem d_opV {op : Operator} {r : R2} {rd : RD2} (ho : OpR X (binaryOp op) r) (hl : LR2V X.K r rd) (ha : PE X a (low X.K W da)) (hb : PE X b (low X.K W db)) : PE X (.BinOp a op b pos) (low X.K W (dOp rd da db)) := pei (pe_fz (pe_op ho ha hb)) fun σ H Q ⟨ρ, S, Qh, Xh, hσ, hS, h, k, x⟩ =>
  ⟨ρ, S, _, Xh, hσ, hS, h, fun d1 S1 v1 H1 q1 t1 r1 a1 => ⟨ρ, S1, _, Xh, hσ.mono t1, a1, q1, fun d2 S2 v2 H2 q2 t2 r2 a2 => hl v1 v2 H2 d1 d2 S2 Qh Q (r1.mono t2) r2 a2 q2 (k.mono (t1.trans t2)), x.mono t1⟩, x⟩
def rdAddV : RD2 := fun x y S Q => match x, y with
  | .int i, .int j => Q (.int (i + j)) S
  | .tup xs, .tup ys => xs.length + ys.length ≤ sizeLine ∧ Q (.tup (xs ++ ys)) S
  | .str a, .str b => a.length + b.length ≤ sizeLine ∧ Q (.str (a ++ b)) S
  | x, y => lstOf x S fun xs => lstOf y S fun ys => xs.length + ys.length ≤ sizeLine ∧ Q (.rol (xs ++ ys)) S
theorem Lk.fz {K : PySem.W.Frag} {H : Hp} {Qh : QD} {Q : VK} (k : Lk K H Qh Q) : Lk K H Qh fun v H1 => FZ v H1 Q := fun d S v H' q t r a => .inl (k d S v H' q t r a)
theorem l_addV {K : PySem.W.Frag} : LR2V K (rAddA K) rdAddV := by
  intro x y H dx dy S Qh Q rx ry hS h k
  have go : rdAdd dx dy S Qh → rAddA K x y H fun v H1 => FZ v H1 Q := fun h => l_add x y H dx dy S Qh _ rx ry hS h k.fz
  unfold rdAddV at h
  split at h
  · exact go h
  · exact go h
  · exact go h
  · obtain ⟨a, us, xs, rfl, l1, r1, h⟩ := lstOf_c rx hS h
    obtain ⟨b, vs, ys, rfl, l2, r2, h⟩ := lstOf_c ry hS h
    exact .inr (.inr (.inr ⟨a, b, us, vs, rfl, rfl, l1, l2, by rw [r1.length, r2.length]; exact h.1, fun p hp => k.frzL h.2 hp (r1.append r2) hS⟩))
/-- slices by value -/
def rdSlV (x : Dv) (lo hi : Option Int) (S : Sto) (Q : QD) : Prop := match x with
  | .tup xs => Q (.tup (cutD xs lo hi)) S
  | .str z => z.length ≤ sizeLine ∧ Q (.str (cutS z lo hi)) S
  | x => lstOf x S fun xs => Q (.rol (cutD xs lo hi)) S
def dSlV (de : DE) (dl dh : DO) : DE := fun ρ S Q X => de ρ S (fun d S1 => dl ρ S1 (fun lo S2 => dh ρ S2 (fun hi S3 => rdSlV d lo hi S3 Q) X) X) X
theorem l_slV {K : PySem.W.Frag} {x : V} {d : Dv} {lo hi : Option Int} {H : Hp} {S : Sto} {Qh : QD} {Q : VK} (rx : Rep K H x d) (hS : Abs K H S) (h : rdSlV d lo hi S Qh) (k : Lk K H Qh Q) : rSlAll K x lo hi H fun v H1 => FZ v H1 Q := by
  unfold rdSlV at h
  split at h
  · exact l_sl rx hS (by unfold rdSl; exact h) k.fz
  · exact l_sl rx hS (by unfold rdSl; exact h) k.fz
  · obtain ⟨a, us, xs, rfl, l1, r1, q⟩ := lstOf_c rx hS h
    exact .inr (.inl ⟨a, us, rfl, l1.sq, fun p hp => k.frzL q hp (cut_rep r1 lo hi) hS⟩)
theorem d_slV {lo hi : Option Expr} {dl dh : DO} {p2 : Pos} (he : PE X e (low X.K W da)) (hl : PO X lo (lowO X.K W dl)) (hu : PO X hi (lowO X.K W dh)) : PE X (.Subscript e (.Slice lo hi none p2) pos) (low X.K W (dSlV da dl dh)) := pei (pe_fz (pe_slice sl_all he hl hu)) fun σ H Q ⟨ρ, S, Qh, Xh, hσ, hS, h, k, x⟩ =>
  ⟨ρ, S, _, Xh, hσ, hS, h, fun d1 S1 v1 H1 q1 t1 r1 a1 => ⟨ρ, S1, _, Xh, hσ.mono t1, a1, q1, fun lo S2 H2 q2 t2 a2 => ⟨ρ, S2, _, Xh, hσ.mono (t1.trans t2), a2, q2, fun hi S3 H3 q3 t3 a3 =>
    l_slV (r1.mono (t2.trans t3)) a3 q3 (k.mono ((t1.trans t2).trans t3)), x.mono (t1.trans t2)⟩, x.mono t1⟩, x⟩
/-- built-ins whose new list is frozen -/
def LRCV (K : PySem.W.Frag) (r : List V → Hp → VK → Prop) (rd : RDC) : Prop := ∀ vs H ds S Qh Q, RepL K H vs ds → Abs K H S → rd ds S Qh → Lk K H Qh Q → r vs H fun v H1 => FZ v H1 Q
theorem d_callBV {r : List V → Hp → VK → Prop} {rd : RDC} (hc : CallR X (.builtin id) r) (hl : LRCV X.K r rd) (hm : X.mg x = none) (hv : bootBuiltins x = some (.builtin id)) (ha : PA X (e :: es) (lowA X.K W das)) (hg : Gl X x := by rfl) (hn : x ≠ "__name__" := by decide) (hdb : (x == ("__debug__" : Str)) = false := by decide)
    (he : starEach (e :: es) X.env = (false, eval e X.env) :: starEach es X.env := by rfl) (hpl : (backTo pos (starEach es X.env)).any (·.1) = false := by rfl) : PE X (.Call (.Name x p) (e :: es) [] pos) (low X.K W (dCB rd das)) := pei (pe_fz (pe_callB hc hg hm hv ha hn hdb he hpl)) fun σ H Q ⟨ρ, S, Qh, Xh, hσ, hS, h, k, x⟩ =>
  ⟨ρ, S, _, Xh, hσ, hS, h, fun ds S1 vs H1 q1 t1 r1 a1 => hl vs H1 ds S1 Qh Q r1 a1 q1 (k.mono t1), x⟩
theorem d_callTyV {r : List V → Hp → VK → Prop} {rd : RDC} (hc : CallR X (.type T) r) (hl : LRCV X.K r rd) (hm : X.mg x = none) (hv : bootBuiltins x = some (.type T)) (ha : PA X (e :: es) (lowA X.K W das)) (hg : Gl X x := by rfl) (hn : x ≠ "__name__" := by decide) (hdb : (x == ("__debug__" : Str)) = false := by decide)
    (he : starEach (e :: es) X.env = (false, eval e X.env) :: starEach es X.env := by rfl) (hpl : (backTo pos (starEach es X.env)).any (·.1) = false := by rfl) : PE X (.Call (.Name x p) (e :: es) [] pos) (low X.K W (dCB rd das)) := pei (pe_fz (pe_callTy hc hg hm hv ha hn hdb he hpl)) fun σ H Q ⟨ρ, S, Qh, Xh, hσ, hS, h, k, x⟩ =>
  ⟨ρ, S, _, Xh, hσ, hS, h, fun ds S1 vs H1 q1 t1 r1 a1 => hl vs H1 ds S1 Qh Q r1 a1 q1 (k.mono t1), x⟩
def rdListV : RDC := fun ds S Q => match ds with
  | [d] => seqOf d S fun xs => Q (.rol xs) S
  | _ => False
theorem l_listV {K : PySem.W.Frag} : LRCV K (fun xs H Q => ∃ p ys, xs = [.ref p] ∧ (SqL K H p ys ∨ SqT K H p ys) ∧ ∀ l, H l = none → Q (.ref l) (upd H l (.lst ys))) rdListV := by
  intro vs H ds S Qh Q r hS h k
  unfold rdListV at h
  split at h
  · obtain ⟨v, rfl, rr⟩ := one_i r
    obtain ⟨a, us, xs, rfl, hl, rl, q⟩ := seqOf_i rr hS h
    exact ⟨a, us, rfl, hl, fun p hp => k.frzL q hp rl hS⟩
  · exact h.elim
def rdSortedV : RDC := fun ds S Q => match ds with
  | [d] => lstOf d S fun xs => ∃ ns : List Int, xs = ns.map Dv.int ∧ ns.length < 64 ∧ ∀ ns' : List Int, ns'.Perm ns → ns'.Pairwise (· ≤ ·) → Q (.rol (ns'.map Dv.int)) S
  | _ => False
theorem l_sortedV {K : PySem.W.Frag} : LRCV K (rSorted K) rdSortedV := by
  intro vs H ds S Qh Q r hS h k
  unfold rdSortedV at h
  split at h
  · obtain ⟨v, rfl, rr⟩ := one_i r
    obtain ⟨a, us, xs, rfl, hl, rl, bs, rfl, hlen, q⟩ := lstOf_i rr hS h
    exact ⟨a, bs, rfl, by rw [← rl.ints]; exact hl, hlen, fun ns' p h1 h2 hp => k.frzL (q ns' h1 h2) hp (RepL.of_ints ns') hS⟩
  · exact h.elim
/-! max, min of a list of ints -/
def rdMaxL : RDC := fun ds S Q => match ds with
  | [d] => lstOf d S fun xs => ∃ ns : List Int, xs = ns.map Dv.int ∧ 0 < ns.length ∧ ∀ m, m ∈ ns → (∀ y ∈ ns, y ≤ m) → Q (.int m) S
  | [.int i, .int j] => Q (.int (if j > i then j else i)) S
  | _ => False
def rdMinL : RDC := fun ds S Q => match ds with
  | [d] => lstOf d S fun xs => ∃ ns : List Int, xs = ns.map Dv.int ∧ 0 < ns.length ∧ ∀ m, m ∈ ns → (∀ y ∈ ns, m ≤ y) → Q (.int m) S
  | [.int i, .int j] => Q (.int (if j < i then j else i)) S
  | _ => False
theorem call_maxA (hc : X.calm = true) : CallR X (.builtin "max") (fun xs H Q => rMax X.K xs H Q ∨ ∃ i j, xs = [.int i, .int j] ∧ Q (.int (if j > i then j else i)) H) := (cr_max hc).or (call_max2 hc)
theorem call_minA (hc : X.calm = true) : CallR X (.builtin "min") (fun xs H Q => rMin X.K xs H Q ∨ ∃ i j, xs = [.int i, .int j] ∧ Q (.int (if j < i then j else i)) H) := (cr_min hc).or (call_min2 hc)
theorem l_maxL {K : PySem.W.Frag} : LRC K (fun xs H Q => rMax K xs H Q ∨ ∃ i j, xs = [.int i, .int j] ∧ Q (.int (if j > i then j else i)) H) rdMaxL := by
  intro vs H ds S Qh Q r hS h k
  unfold rdMaxL at h
  split at h
  · obtain ⟨v, rfl, rr⟩ := one_i r
    obtain ⟨a, us, xs, rfl, hl, rl, bs, rfl, hlen, q⟩ := lstOf_i rr hS h
    exact .inl ⟨a, bs, rfl, by rw [← rl.ints]; exact hl, hlen, fun m h1 h2 => k.now (q m h1 h2) (.int _) hS⟩
  · obtain ⟨v, u, rfl, r1, r2⟩ := two_i r
    rw [r1.i_int, r2.i_int]
    exact .inr ⟨_, _, rfl, k.now h (.int _) hS⟩
  · exact h.elim
theorem l_minL {K : PySem.W.Frag} : LRC K (fun xs H Q => rMin K xs H Q ∨ ∃ i j, xs = [.int i, .int j] ∧ Q (.int (if j < i then j else i)) H) rdMinL := by
  intro vs H ds S Qh Q r hS h k
  unfold rdMinL at h
  split at h
  · obtain ⟨v, rfl, rr⟩ := one_i r
    obtain ⟨a, us, xs, rfl, hl, rl, bs, rfl, hlen, q⟩ := lstOf_i rr hS h
    exact .inl ⟨a, bs, rfl, by rw [← rl.ints]; exact hl, hlen, fun m h1 h2 => k.now (q m h1 h2) (.int _) hS⟩
  · obtain ⟨v, u, rfl, r1, r2⟩ := two_i r
    rw [r1.i_int, r2.i_int]
    exact .inr ⟨_, _, rfl, k.now h (.int _) hS⟩
  · exact h.elim
/-! ### data -/
theorem valOf_dp {K : PySem.W.Frag} {H : Hp} {S : Sto} {v : V} {d : Dv} (r : Rep K H v d) (hS : Abs K H S) (s : isD (valOf d S) = true) : Dp K H v (py (valOf d S)) := by
  by_cases hv : ∃ a xs, d = .ref a ∧ S a = some (.lst xs)
  · obtain ⟨a, xs, rfl, e⟩ := hv
    have e2 : valOf (.ref a) S = .rol xs := by unfold valOf; dsimp only; rw [e]
    rw [e2] at s ⊢
    obtain ⟨us, h1, l1⟩ := hS _ _ e
    rw [r.i_ref]
    exact .lst (.inl (.inl h1)) (RepL.dp _ l1 (by simpa [isD] using s))
  · have e2 : valOf d S = d := by
      unfold valOf
      split
      · rename_i a
        split
        · rename_i xs e; exact absurd ⟨a, xs, rfl, e⟩ hv
        · rfl
      · rfl
    rw [e2] at s ⊢
    exact Rep.dp _ r s
/-! repr -/
def shwD (d : Dv) : Bool := isD d && (py d).showable && !(py d).hasDict && decide ((py d).depth ≤ 64) && decide ((py d).shown.length ≤ sizeLine)
def rReprD (K : PySem.W.Frag) : List V → Hp → VK → Prop := fun xs H Q => ∃ x d, xs = [x] ∧ Dp K H x d ∧ d.showable = true ∧ d.hasDict = false ∧ d.depth ≤ 64 ∧ d.shown.length ≤ sizeLine ∧ Q (.str d.shown) H
theorem call_reprD (hg : X.A.guards = some []) (hu : X.A.units + 80 < cLine) : CallR X (.builtin "repr") (rReprD X.K) := by
  intro pins s σ H xs us Q I r h
  obtain ⟨x, d, rfl, dp, h1, h2, h3, h4, q⟩ := h
  obtain ⟨u, rfl, r1⟩ := vals1 r
  obtain ⟨as, rd⟩ := Dp.reads I d x u dp r1
  have done : ∀ {tk : Tok} {h' : Heap} {n : Nat}, (∀ b o, s.heap.get? b = some o → h'.get? b = some o) → EP X pins σ Q (.str d.shown tk) { s with heap := h', toks := n } := fun {tk h' n} kp => ⟨.str d.shown, H, I.kept (t' := n) kp, ⟨tk, rfl⟩, q⟩
  cases dp with
  | non => cases (show u = Value.none from r1); exact PySem.P.repr_of_none (done fun _ _ h => h)
  | bl b => cases (show u = Value.bool b from r1); exact PySem.P.repr_of_bool (done fun _ _ h => h)
  | int i =>
    obtain ⟨t, q⟩ := (show ∃ t, u = Value.int i t from r1); cases q
    exact PySem.P.repr_of_int (by simpa [PyData.showable] using h1) (done fun _ _ h => h)
  | str y =>
    obtain ⟨t, q⟩ := (show ∃ t, u = Value.str y t from r1); cases q
    exact PySem.P.repr_of_str (done fun _ _ h => h) h4
  | lst hs ha => cases (show u = Value.ref _ from r1); exact repr_of_reads' rd h1 (PyData.noDict_hsm h2) hg (by omega) (fun _ _ h => h) (fun h' u' tk kp => done kp) h4
  | tup hs ha => cases (show u = Value.ref _ from r1); exact repr_of_reads' rd h1 (PyData.noDict_hsm h2) hg (by omega) (fun _ _ h => h) (fun h' u' tk kp => done kp) h4
def rdRepr : RDC := fun ds S Q => match ds with
  | [d] => shwD (valOf d S) = true ∧ Q (.str (py (valOf d S)).shown) S
  | _ => False
theorem l_repr {K : PySem.W.Frag} : LRC K (rReprD K) rdRepr := by
  intro vs H ds S Qh Q r hS h k
  unfold rdRepr at h
  split at h
  · obtain ⟨v, rfl, rr⟩ := one_i r
    obtain ⟨s, q⟩ := h
    unfold shwD at s
    simp only [Bool.and_eq_true, decide_eq_true_eq, Bool.not_eq_true'] at s
    exact ⟨v, _, rfl, valOf_dp rr hS s.1.1.1.1, s.1.1.1.2, s.1.1.2, s.1.2, s.2, k.now q (.str _) hS⟩
  · exact h.elim
/-! x in xs -/
def anyEq (x : Dv) (xs : List Dv) : Bool := xs.any fun z => eqvD z x
def inAll (xs : List Dv) : Bool := shpL xs
theorem pyL_map (xs : List Dv) : pyL xs = xs.map py := by
  induction xs with
  | nil => rfl
  | cons x xs ih => simp [pyL, ih]
/-- x in a list of data; x in a tuple of flat things -/
def flatD : Dv → Bool
  | .non | .bl _ | .int _ | .str _ => true
  | _ => false
def rdIn (f : Bool → Bool) : RD2 := fun x y S Q => match y with
  | .tup xs => (flatD x = true ∧ xs.all flatD = true) ∧ Q (.bl (f (anyEq x xs))) S
  | y => shp (valOf x S) = true ∧ lstOf y S fun xs => shpL xs = true ∧ Q (.bl (f (anyEq (valOf x S) xs))) S

theorem flat_v {K : PySem.W.Frag} {H : Hp} {v : V} {d : Dv} (r : Rep K H v d) (h : flatD d = true) : flatV v = true := by
  cases r <;> first | rfl | cases h
theorem eq_v {K : PySem.W.Frag} {H : Hp} {v u : V} {d e : Dv} (r : Rep K H v d) (r2 : Rep K H u e) (h : flatD d = true) (h2 : flatD e = true) : eqV v u = eqvD d e := by
  cases r <;> first
    | (cases h; done)
    | (cases r2 <;> first | (cases h2; done) | (simp [eqV, eqvD, py, PyData.eqv]))
theorem in_v {K : PySem.W.Frag} {H : Hp} {v : V} {d : Dv} (r : Rep K H v d) (h : flatD d = true) : ∀ {us : List V} {xs : List Dv}, RepL K H us xs → xs.all flatD = true → us.all flatV = true ∧ inV v us = anyEq d xs
  | _, _, .nil, _ => ⟨rfl, rfl⟩
  | _, _, .cons r1 l, e => by
    rw [List.all_cons, Bool.and_eq_true] at e
    obtain ⟨h1, h2⟩ := in_v r h l e.2
    refine ⟨by rw [List.all_cons, flat_v r1 e.1, h1]; rfl, ?_⟩
    unfold inV anyEq at *
    rw [List.any_cons, List.any_cons, h2, eq_v r1 r e.1 h]
def rInA (K : PySem.W.Frag) : R2 := fun x y H Q => rIn K false x y H Q ∨ rInD K x y H Q
def rNotInA (K : PySem.W.Frag) : R2 := fun x y H Q => rIn K true x y H Q ∨ rNotInD K x y H Q
theorem op_inA (hu : X.A.units + 65 < cLine) : OpR X (compareOp .In) (rInA X.K) := op_in_seq.or (op_inD hu)
theorem op_notInA (hu : X.A.units + 65 < cLine) : OpR X (compareOp .NotIn) (rNotInA X.K) := op_notIn_seq.or (op_notInD hu)
theorem anyEq_py (x : Dv) (xs : List Dv) : (pyL xs).any (fun z => PyData.eqv z (py x)) = anyEq x xs := by
  rw [pyL_map]
  unfold anyEq eqvD
  rw [List.any_map]
  rfl
theorem l_in {K : PySem.W.Frag} : LR2 K (rInA K) (rdIn fun b => b) := by
  intro x y H dx dy S Qh Q rx ry hS h k
  unfold rdIn at h
  split at h
  · obtain ⟨⟨h1, h2⟩, q⟩ := h
    obtain ⟨a, us, rfl, ha, la⟩ := ry.i_tup
    obtain ⟨e1, e2⟩ := in_v rx h1 la h2
    refine .inl ⟨a, us, rfl, .inr ha, flat_v rx h1, e1, ?_⟩
    rw [e2]
    exact k.now q (.bl _) hS
  · obtain ⟨h1, h2⟩ := h
    obtain ⟨a, us, xs, rfl, l1, r1, h3, q⟩ := lstOf_c ry hS h2
    unfold shpL at h3
    rw [Bool.and_eq_true] at h3
    refine .inr ⟨py (valOf _ S), pyL xs, valOf_dp rx hS (shp_i h1).1, .lst l1.sq (RepL.dp _ r1 h3.1), (shp_i h1).2, h3.2, ?_⟩
    rw [anyEq_py]
    exact k.now q (.bl _) hS
theorem l_notIn {K : PySem.W.Frag} : LR2 K (rNotInA K) (rdIn fun b => !b) := by
  intro x y H dx dy S Qh Q rx ry hS h k
  unfold rdIn at h
  split at h
  · obtain ⟨⟨h1, h2⟩, q⟩ := h
    obtain ⟨a, us, rfl, ha, la⟩ := ry.i_tup
    obtain ⟨e1, e2⟩ := in_v rx h1 la h2
    refine .inl ⟨a, us, rfl, .inr ha, flat_v rx h1, e1, ?_⟩
    rw [e2]
    exact k.now q (.bl _) hS
  · obtain ⟨h1, h2⟩ := h
    obtain ⟨a, us, xs, rfl, l1, r1, h3, q⟩ := lstOf_c ry hS h2
    unfold shpL at h3
    rw [Bool.and_eq_true] at h3
    refine .inr ⟨py (valOf _ S), pyL xs, valOf_dp rx hS (shp_i h1).1, .lst l1.sq (RepL.dp _ r1 h3.1), (shp_i h1).2, h3.2, ?_⟩
    rw [anyEq_py]
    exact k.now q (.bl _) hS
/-! ### a field as a target; o.f op= e -/
def gFldR (K : PySem.W.Frag) (cs : List Addr) (ta : TE) (f : Str) : TG := fun v σ H Q => ta σ H fun x H1 => ∃ a C dx fs, x = .ref a ∧ H1 a = some (.ins C dx fs) ∧ C ∈ cs ∧ fs.length < 1000 ∧ Q σ (upd H1 a (.ins C dx (L2.putF f v fs)))
theorem pg_fldR {cs : List Addr} {f : Str} {o : Expr} {ta : TE} (hc : ∀ C ∈ cs, Cls X.K C ∧ NoAttr X.K C f) (ho : PE X o ta) : PG X (.Attribute o f pos) (gFldR X.K cs ta f) := by
  constructor
  intro pins s σ H v u Q I r h
  rw [arm_assign_Attribute]
  refine wpAny_bind (wpAny_holding (thn (ho.run pins s σ H _ I h) fun ov s1 ⟨x, H1, I1, r1, a, C, dx, fs, ex, ea, hm, l, q⟩ => ?_))
  subst ex
  obtain rfl : ov = Value.ref a := r1
  refine wpAny_bind (wpAny_standAt (wpAny_bind (wpAny_holding (setattr_ok I1 ea (hc C hm).1 (hc C hm).2 l r fun s3 I3 => ?_))))
  exact wpAny_release ⟨σ, _, I3, q⟩
def gFldD (cs : List Addr) (f : Str) (dO : DE) : DG := fun d ρ S Q => dO ρ S (fun x S1 => match x with
  | .ref a => match S1 a with
    | some (.ins C dx fs) => C ∈ cs ∧ fs.length < 1000 ∧ Q ρ (put S1 a (.ins C dx (putFD f d fs)))
    | _ => False
  | _ => False) X0
theorem g_fld {cs : List Addr} {f : Str} {o : Expr} {dO : DE} (hc : ∀ C ∈ cs, Cls X.K C ∧ NoAttr X.K C f) (ho : PE X o (low X.K W dO)) : PG X (.Attribute o f pos) (lowG X.K (gFldD cs f dO)) :=
  pgi (pg_fldR hc ho) fun v σ H Q ⟨d, ρ, S, Qh, r, hσ, hS, h, k⟩ => ⟨ρ, S, _, X0, hσ, hS, h, fun d1 S1 v1 H1 q1 t1 r1 a1 => by
    dsimp only at q1
    split at q1
    · rename_i a
      split at q1
      · rename_i C dx fs ea
        obtain ⟨hm, hl, q⟩ := q1
        obtain ⟨gs, h1, h2⟩ := a1 _ _ ea
        have tw : Tk X.K H1 (upd H1 a (.ins C dx (L2.putF f v gs))) := Tk.write h1 wr_ins
        exact ⟨a, C, dx, gs, r1.i_ref, h1, hm, by rw [repF_len h2]; exact hl, k ρ _ σ _ q (t1.trans tw) (hσ.mono (t1.trans tw)) (a1.write h1 wr_ins (.mins upd_same ((repF_put (r.mono t1) h2).mono tw)))⟩
      · exact q1.elim
    · exact q1.elim, lx0⟩
def dAugF (cs : List Addr) (f : Str) (rd : RD2) (dO de : DE) : DS := fun D ρ S => dO ρ S (fun x S1 => match x with
  | .ref a => match S1 a with
    | some (.ins C dx fs) => C ∈ cs ∧ ∃ v, fs.lookup f = some v ∧ de ρ S1 (fun y S2 => rd v y S2 fun z S3 => match S3 a with
      | some (.ins C' dx' fs') => C' = C ∧ fs'.length < 1000 ∧ D.nx ρ (put S3 a (.ins C' dx' (putFD f z fs')))
      | _ => False) (D.xd ρ)
    | _ => False
  | _ => False) (D.xd ρ)
theorem s_augF {cs : List Addr} {f : Str} {op : Operator} {r : V → V → Hp → VK → Prop} {rd : RD2} {o : Expr} {dO : DE} {tpos : Pos} (hc : ∀ C ∈ cs, Cls X.K C ∧ NoAttr X.K C f) (hop : InOp X op r) (hl : LR2 X.K r rd) (ho : PE X o (low X.K W dO)) (he : PE X e (low X.K W de)) :
    PS X (.AugAssign (.Attribute o f tpos) op e pos) (lowS X.K W (dAugF cs f rd dO de)) := psi (ps_fldaug ho he hop) fun D σ H ⟨ρ, S, Dh, hσ, hS, h, k⟩ =>
  ⟨ρ, S, _, _, hσ, hS, h, fun d1 S1 v1 H1 q1 t1 r1 a1 => by
    dsimp only at q1
    split at q1
    · rename_i a
      split at q1
      · rename_i C dx fs ea
        obtain ⟨hm, v, hv, q⟩ := q1
        obtain ⟨gs, h1, h2⟩ := a1 _ _ ea
        obtain ⟨u, hu, ru⟩ := lookF h2 hv
        refine ⟨a, C, dx, gs, u, r1.i_ref, h1, (hc C hm).1, (hc C hm).2, hu, ρ, S1, _, _, hσ.mono t1, a1, q, fun d2 S2 v2 H2 q2 t2 r2 a2 => hl u v2 H2 v d2 S2 _ _ (ru.mono t2) r2 a2 q2 fun d3 S3 v3 H3 q3 t3 r3 a3 => ?_, (k.mono t1).lx (hσ.mono t1)⟩
        split at q3
        · rename_i C' dx' fs' e3
          obtain ⟨rfl, hl3, q⟩ := q3
          obtain ⟨gs3, g1, g2⟩ := a3 _ _ e3
          have tw : Tk X.K H3 (upd H3 a (.ins C' dx' (L2.putF f v3 gs3))) := Tk.write g1 wr_ins
          have ta := (t1.trans t2).trans (t3.trans tw)
          exact ⟨dx', gs3, g1, by rw [repF_len g2]; exact hl3, k.nx ρ _ σ _ q ta (hσ.mono ta) (a3.write g1 wr_ins (.mins upd_same ((repF_put r3 g2).mono tw)))⟩
        · exact q3.elim
      · exact q1.elim
    · exact q1.elim, k.lx hσ⟩
theorem l_fadd {K : PySem.W.Frag} : LR2 K L2.rAdd rdIAdd := by
  intro x y H dx dy S Qh Q rx ry hS h k
  unfold rdIAdd at h
  split at h
  · exact ⟨_, _, rx.i_int, ry.i_int, k.now h (.int _) hS⟩
  · exact h.elim
theorem l_fsub {K : PySem.W.Frag} : LR2 K L2.rSub rdSub := by
  intro x y H dx dy S Qh Q rx ry hS h k
  unfold rdSub at h
  split at h
  · exact ⟨_, _, rx.i_int, ry.i_int, k.now h (.int _) hS⟩
  · exact h.elim
/-! ### xs.pop(i), xs.pop() -/
def rdPopAt : RDM := fun x ds S Q => match x, ds with
  | .ref a, [.int i] => match S a with
    | some (.lst xs) => ∃ j d, (-(2 ^ 63) ≤ i ∧ i < 2 ^ 63) ∧ seqIndex? i xs.length = some j ∧ xs[j]? = some d ∧ Q d (put S a (.lst (xs.eraseIdx j)))
    | _ => False
  | _, _ => False
theorem mt_popR : MtR X "list.pop" rPopAt := fun pins s σ H x vs v us Q I rx rv h => mt_popAt pins s σ H x vs v us Q I rx rv h
theorem l_popAt {K : PySem.W.Frag} : LRM K rPopAt rdPopAt := by
  intro x vs H d ds S Qh Q rx r hS h k
  unfold rdPopAt at h
  split at h
  · rename_i a i
    obtain ⟨v, rfl, r1⟩ := one_i r
    split at h
    · rename_i xs ea
      obtain ⟨us, h1, l⟩ := hS _ _ ea
      obtain ⟨j, d, ⟨b1, b2⟩, hj, hd, q⟩ := h
      obtain ⟨y, hy, ry⟩ := l.get hd
      have tw : Tk K H (upd H a (.lst (us.eraseIdx j))) := Tk.write h1 wr_lst
      rw [r1.i_int]
      exact ⟨a, us, i, j, y, rx.i_ref, rfl, h1, b1, b2, by rw [l.length]; exact hj, hy, k _ _ _ _ q tw (ry.mono tw) (hS.write h1 wr_lst (.mlst upd_same ((l.mono tw).erase j)))⟩
    · exact h.elim
  · exact h.elim
end
/-! ### comprehensions whose list is frozen -/
section
variable {g : DG} {te : DE} {tt : DT} {vs : List Nat} {ρ : Rho} {Q : QD} {items : List Dv} {stay : Sto → Prop} {S : Sto}
theorem lcV_pure (f : Dv → Dv) (hl : items.length ≤ sizeLine) (hst : ∀ p m, S p = none → stay (put S p m)) (he : ∀ x ∈ items, ∀ (T : Sto) (K : QD), Sub S T → K (f x) T → g x (wipeD ρ vs) T fun ρ2 S2 => te ρ2 S2 K X0)
    (hQ : Q (.rol (items.map f)) S) : LcGo g dYes te vs ρ (fun d S1 => frzD d S1 Q) items stay S := lc_pure f hl hst he fun p hp => by
  unfold frzD
  dsimp only
  rw [put_same, rm_put hp]
  exact hQ
theorem lcV_filter (c : Dv → Bool) (f : Dv → Dv) (hl : items.length ≤ sizeLine) (hst : ∀ p m, S p = none → stay (put S p m))
    (he : ∀ x ∈ items, ∀ (T : Sto) (K : QD) (N : Sto → Prop), Sub S T → (c x = true → K (f x) T) → (c x = false → N T) → g x (wipeD ρ vs) T fun ρ2 S2 => tt ρ2 S2 (fun b S3 => if b = true then te ρ2 S3 K X0 else N S3) X0)
    (hQ : Q (.rol ((items.filter c).map f)) S) : LcGo g tt te vs ρ (fun d S1 => frzD d S1 Q) items stay S := lc_filter c f hl hst he fun p hp => by
  unfold frzD
  dsimp only
  rw [put_same, rm_put hp]
  exact hQ
end
/-! ### a def that forgets what it made -/
def RdF (t : DS) (n : Nat) (sp : SpD) : Prop := ∀ ds S Q Xh, sp ds S Q Xh → t { nx := fun _ S' => ∃ T, Sub T S' ∧ Q .non T, rt := fun d S' => ∃ T, Sub T S' ∧ Q d T, ex := fun c da _ S' => ∃ T, Sub T S' ∧ Xh c da T } (startN n ds) S
theorem okF {P : Program} {w : World} {K : PySem.W.Frag} {mg : Str → Option Value} {base : Heap} {x qual : Str} {st : Stmt} {f : Addr} {fd : FuncData} {N ps : List Str} {k : Nat} {sp : SpD} (F : Fun K x qual st f fd) (Sc : FnScope N ps (defScope st)) (len : ∀ ds S Q X, sp ds S Q X → ds.length = ps.length)
    (t : DS) (hb : ∀ (cdv : Value) (A : Around) (outer : List Env) (s : Shared) (H : Hp) (E : XK), RoomG k (A.deeper (envOfC qual (defScope st) s.heap.objs.size f cdv)) →
      PSs (cxOf (L2.CX P w) P w K mg base N qual (defScope st) f cdv A outer s H E) (defBody st) (lowS K (WF E) t))
    (hr : RdF t N.length sp) : FnD P w K mg base (k + 1) f fd ps sp := by
  refine funG F Sc (fun vs H Q E ⟨ds, S, Qh, Xh, r, a, h, _⟩ => by rw [r.length]; exact len _ _ _ _ h) fun cdv A outer s H vs Q E hr' ⟨ds, S, Qh, Xh, r, a, h, k1, k2⟩ => ?_
  refine ⟨_, hb cdv A outer s H E hr', startD N ds, S, _, RepS.start r, a, hr ds S Qh Xh h, ⟨fun ρ' S' σ' H' ⟨T, sb, q⟩ t _ a => k1 .non T .non H' q t .non (a.sub sb), fun d S' v H' ⟨T, sb, q⟩ t r a => k1 d T v H' q t r (a.sub sb), fun _ _ _ _ (q : False) => False.elim q, fun _ _ _ _ (q : False) => False.elim q, fun c da ρ' S' σ' H' ⟨T, sb, q⟩ t _ a => k2 c da T H' q t (a.sub sb)⟩⟩
theorem Sub.rf {S : Sto} : Sub S S := Sub.refl S
/-! ### xs.extend(ys), ys any sequence; list * int -/
section
variable {X : Cx} {K : PySem.W.Frag}
def rExtC (K : PySem.W.Frag) : V → List V → Hp → VK → Prop := fun x vs H Q => ∃ l b xs zs, x = .ref l ∧ vs = [.ref b] ∧ H l = some (.lst xs) ∧ LC K H b zs ∧ xs.length + zs.length ≤ sizeLine ∧ Q .non (upd H l (.lst (xs ++ zs)))
theorem mt_extC : MtR X "list.extend" (rExtC X.K) := by
  intro pins s σ H x vs v us Q I rx rv h
  obtain ⟨l, b, xs, zs, rfl, rfl, hx, hy, fits, q⟩ := h
  obtain rfl : v = Value.ref l := rx
  obtain ⟨u, rfl, ru⟩ := rv.one
  obtain rfl : u = Value.ref b := ru
  obtain ⟨_, its, n, r, hl, e⟩ := I.lstM hx
  obtain ⟨_, its2, n2, r2, hl2, e2⟩ := hy.at_ I
  have few : its.toArray.size + its2.toArray.size ≤ sizeLine := by simp only [List.size_toArray]; omega
  have short : ¬ (!its.toArray.isEmpty && Builtin.List.listTooLong (its.toArray.size + its2.toArray.size)) = true := by
    rw [notLongL few, Bool.and_false]; decide
  refine call_meets F.slot_list_extend ⟨_, e, rfl⟩ F.entry_list_extend (F.args_list_extend_2 _ _) (AutoSeq1.list_extend_list_list_0 l its.toArray n b its2.toArray n2 short (by rw [List.size_toArray]; omega) (by omega)) ⟨e, e2, ?_⟩
  exact ⟨.non, _, I.lset (its' := its ++ its2) hx e (by simp) (r.append r2) (by rw [List.length_append]; omega), rfl, q⟩
def rdExt : RDM := fun x ds S Q => match x, ds with
  | .ref a, [y] => match S a with
    | some (.lst xs) => seqOf y S fun ys => xs.length + ys.length ≤ sizeLine ∧ Q .non (put S a (.lst (xs ++ ys)))
    | _ => False
  | _, _ => False
theorem mt_extB : MtR X "list.extend" (fun x vs H Q => rExtT X.K x vs H Q ∨ rExtC X.K x vs H Q) := MtR.or mt_extT mt_extC
theorem seqOf_c {H : Hp} {S : Sto} {d : Dv} {v : V} {R : List Dv → Prop} (r : Rep K H v d) (hS : Abs K H S) (h : seqOf d S R) : ∃ a us xs, v = .ref a ∧ (LC K H a us ∨ SqT K H a us) ∧ RepL K H us xs ∧ R xs := by
  unfold seqOf at h
  split at h
  · obtain ⟨a, us, rfl, ha, la⟩ := r.i_tup
    exact ⟨a, us, _, rfl, .inr ha, la, h⟩
  · obtain ⟨a, us, rfl, ha, la⟩ := r.i_rol
    exact ⟨a, us, _, rfl, .inl (.inr ha), la, h⟩
  · rename_i a
    split at h
    · rename_i xs ea
      obtain ⟨us, h1, la⟩ := hS _ _ ea
      exact ⟨a, us, xs, r.i_ref, .inl (.inl h1), la, h⟩
    · exact h.elim
  · exact h.elim
theorem l_extB : LRM K (fun x vs H Q => rExtT K x vs H Q ∨ rExtC K x vs H Q) rdExt := by
  intro x vs H d ds S Qh Q rx r hS h k
  unfold rdExt at h
  split at h
  · rename_i a y
    obtain ⟨v, rfl, r1⟩ := one_i r
    split at h
    · rename_i xs ea
      obtain ⟨us, h1, l⟩ := hS _ _ ea
      obtain ⟨b, zs, ys, rfl, hb, lb, hz, q⟩ := seqOf_c r1 hS h
      have tw : Tk K H (upd H a (.lst (us ++ zs))) := Tk.write h1 wr_lst
      have fits : us.length + zs.length ≤ sizeLine := by rw [l.length, lb.length]; exact hz
      have done := k _ _ _ _ q tw .non (hS.write h1 wr_lst (.mlst upd_same ((l.mono tw).append (lb.mono tw))))
      rcases hb with hb | hb
      · exact .inr ⟨a, b, us, zs, rx.i_ref, rfl, h1, hb, fits, done⟩
      · exact .inl ⟨a, b, us, zs, rx.i_ref, rfl, h1, hb, fits, done⟩
    · exact h.elim
  · exact h.elim
def rRepC (K : PySem.W.Frag) : R2 := fun x y H Q => ∃ l k xs, x = .ref l ∧ y = .int k ∧ LC K H l xs ∧ (-(2 ^ 63) ≤ k ∧ k < 2 ^ 63) ∧ xs.length * k.toNat ≤ sizeLine ∧ ∀ p, H p = none → Q (.ref p) (upd H p (.lst (List.replicate k.toNat xs).flatten))
theorem op_repC : OpR X (binaryOp .Mult) (rRepC X.K) := by
  intro pins s σ H x y v u Q I rx ry h
  obtain ⟨l, k, xs, rfl, rfl, hx, ⟨h1, h2⟩, hz, q⟩ := h
  obtain rfl : v = Value.ref l := rx
  obtain ⟨t, rfl⟩ := (show ∃ t, u = Value.int k t from ry)
  obtain ⟨_, its, n, r, hl, e⟩ := hx.at_ I
  have few : its.toArray.size * k.toNat ≤ sizeLine := by rw [List.size_toArray, ← hl]; exact hz
  have cap : ¬ its.toArray.size * k.toNat > (2 ^ 63 - 1) / 8 := by
    have : (sizeLine : Nat) ≤ (2 ^ 63 - 1) / 8 := by decide
    omega
  have fit : ¬ (!Builtin.List.listFitsIndex k) = true := by rw [fitsIndex_both h1 h2]; decide
  have short : ¬ Builtin.List.listTooLong (its.toArray.size * k.toNat) = true := by rw [notLongL few]; decide
  have new : List.foldl (fun x1 x2 => x1 ++ x2) #[] (List.replicate (if its.toArray.isEmpty = true then 0 else k.toNat) its.toArray) = (List.replicate k.toNat its).flatten.toArray := by
    have f0 : ∀ m : Nat, List.foldl (fun x1 x2 => x1 ++ x2) #[] (List.replicate m its.toArray) = (List.replicate m its).flatten.toArray := fun m => by
      simpa using foldl_rep its m []
    rw [f0]
    cases its with
    | nil => simp
    | cons a r' => rw [if_neg (by simp)]
  refine wpAny_binaryOp_repeat_ref (T := "list") (U := "int") (by decide) ⟨_, e, rfl⟩ (fun s' => typeIs_int s' k t) noFill_list_mul F.fills_int_mul F.slot_int_rmul repeat_list F.slot_int_index.lookup (call_meets F.slot_int_rmul (typeIs_int s k t) F.entry_int_rmul (F.args_int_rmul_2 _ _) (int___rmul___int_list k t l its.toArray n) ⟨e, rfl, ⟨_, e, rfl⟩, call_meets F.slot_list_mul ⟨_, e, rfl⟩ F.entry_list_mul (F.args_list_mul_2 _ _) (AutoListH.list___mul___list_int_3 l its.toArray n k t fit cap short) ⟨e, ?_⟩⟩)
  rw [new]
  exact ⟨.ref _, _, I.lnew (t' := s.toks) (r.rep k.toNat) (by rw [PyProof.Rows.lm_len_rep_flat, Nat.mul_comm]; exact hz), rfl, q _ I.fresh⟩
abbrev rMulB (K : PySem.W.Frag) : R2 := fun x y H Q => rI IntMulOk (fun i j => .int (i * j)) x y H Q ∨ rRepS K x y H Q ∨ rRepT K x y H Q ∨ rRepC K x y H Q
theorem op_mulB : OpR X (binaryOp .Mult) (rMulB X.K) := op_mulK.or (op_repS.or (op_repT.or op_repC))
def rdMulV : RD2 := fun x y S Q => match x, y with
  | .int i, .int j => IntMulOk i j ∧ Q (.int (i * j)) S
  | .tup xs, .int k => (1 ≤ k ∧ k ≤ 1000 ∧ xs.length ≤ 1000) ∧ Q (.tup (List.replicate k.toNat xs).flatten) S
  | x, .int k => lstOf x S fun xs => ((-(2 ^ 63) ≤ k ∧ k < 2 ^ 63) ∧ xs.length * k.toNat ≤ sizeLine) ∧ Q (.rol (List.replicate k.toNat xs).flatten) S
  | _, _ => False
theorem l_mulV : LR2V K (rMulB K) rdMulV := by
  intro x y H dx dy S Qh Q rx ry hS h k
  have go : rdMul dx dy S Qh → (∀ a, dx ≠ .ref a) → rMulB K x y H fun v H1 => FZ v H1 Q := fun h hn => by
    have z := l_mul x y H dx dy S Qh _ rx ry hS h k.fz
    rcases z with z | z | z | z
    · exact .inl z
    · exact .inr (.inl z)
    · exact .inr (.inr (.inl z))
    · unfold rdMul at h
      split at h
      · obtain ⟨l, k, xs, e, _⟩ := z; rw [rx.i_int] at e; cases e
      · obtain ⟨l, k, xs, e, e2, e3, b1, b2, b3, z⟩ := z
        exact .inr (.inr (.inr ⟨l, k, xs, e, e2, .inl e3, ⟨b1, b2⟩, b3, z⟩))
      · exact absurd rfl (hn _)
      · exact h.elim
  unfold rdMulV at h
  split at h
  · exact go h (by intro a e; cases e)
  · exact go h (by intro a e; cases e)
  · obtain ⟨a, us, xs, rfl, l1, r1, hb, q⟩ := lstOf_c rx hS h
    exact .inr (.inr (.inr ⟨a, _, us, rfl, ry.i_int, l1, hb.1, by rw [r1.length]; exact hb.2, fun p hp => k.frzL q hp (r1.rep _) hS⟩))
  · exact h.elim
end
end VD

namespace VD
open PySem PySem.Spec PyProof.Rows L2
/-- where the classes of the program stand -/
structure Ad where
  WorldError : Addr
  NoNumber : Addr
  NoSeed : Addr
  BadGround : Addr
  BadProgram : Addr
  BadKind : Addr
  BadGame : Addr
  NoWorld : Addr
  NoBody : Addr
  NoWay : Addr
  NoInputs : Addr
  NoHandler : Addr
  NoCode : Addr
  NoRows : Addr
  NoRow : Addr
  NoPlace : Addr
  BadRow : Addr
  BadChange : Addr
  NoSeat : Addr
  NotWaiting : Addr
  NoTick : Addr
  NotOpen : Addr
  Gap : Addr
  BadDeed : Addr
  NoBook : Addr
  NoPeer : Addr
  NoRules : Addr
  NoPast : Addr
  NoLetter : Addr
  NoDeed : Addr
  BadDeeds : Addr
  NoCut : Addr
  NoBlocks : Addr
  NoDisk : Addr
  OtherMatch : Addr
  BadTurns : Addr
  OtherGame : Addr
  Strayed : Addr
  NoNode : Addr
  NoReplay : Addr
  NoExpression : Addr
  BadText : Addr
  NoProgram : Addr
  NoPicture : Addr
  Unlike : Addr
  NoChanges : Addr
  NoLine : Addr
  NoName : Addr
  Ground : Addr
  Program : Addr
  Kind : Addr
  Game : Addr
  World : Addr
  Moving : Addr
  Standing : Addr
  Effects : Addr
  Machine : Addr
  Reader : Addr
  Book : Addr
  Timeline : Addr
  Known : Addr
  Host : Addr
  Heard : Addr
  Gathering : Addr
  Peer : Addr
  Net : Addr
  Disk : Addr
  SavedHost : Addr
  SavedPeer : Addr
  Replay : Addr
  Reel : Addr
  Node : Addr
  Branches : Addr
  Mixer : Addr
  Handlers : Addr
  GameReader : Addr
  Screen : Addr
  Desk : Addr
  ot : OTab
def ad0 : Ad := { WorldError := 0, NoNumber := 0, NoSeed := 0, BadGround := 0, BadProgram := 0, BadKind := 0, BadGame := 0, NoWorld := 0, NoBody := 0, NoWay := 0, NoInputs := 0, NoHandler := 0, NoCode := 0, NoRows := 0, NoRow := 0, NoPlace := 0, BadRow := 0, BadChange := 0, NoSeat := 0, NotWaiting := 0, NoTick := 0, NotOpen := 0, Gap := 0, BadDeed := 0, NoBook := 0, NoPeer := 0, NoRules := 0, NoPast := 0, NoLetter := 0, NoDeed := 0, BadDeeds := 0, NoCut := 0, NoBlocks := 0, NoDisk := 0, OtherMatch := 0, BadTurns := 0, OtherGame := 0, Strayed := 0, NoNode := 0, NoReplay := 0, NoExpression := 0, BadText := 0, NoProgram := 0, NoPicture := 0, Unlike := 0, NoChanges := 0, NoLine := 0, NoName := 0, Ground := 0, Program := 0, Kind := 0, Game := 0, World := 0, Moving := 0, Standing := 0, Effects := 0, Machine := 0, Reader := 0, Book := 0, Timeline := 0, Known := 0, Host := 0, Heard := 0, Gathering := 0, Peer := 0, Net := 0, Disk := 0, SavedHost := 0, SavedPeer := 0, Replay := 0, Reel := 0, Node := 0, Branches := 0, Mixer := 0, Handlers := 0, GameReader := 0, Screen := 0, Desk := 0, ot := ⟨[], []⟩ }
section
variable {X : Cx} {W : WX} {a b c e o : Expr} {da db dc de : DE} {pos p apos : Pos} {es : List Expr} {das : DA} {x m f : Str} {k : Nat} {g C : Addr} {fd : FuncData} {ps : List Str}
theorem fcs_nil {K : PySem.W.Frag} {f : Str} : ∀ C ∈ ([] : List Addr), Cls K C ∧ NoAttr K C f := fun _ h => by cases h
theorem fcs_cons {K : PySem.W.Frag} {f : Str} {C : Addr} {cs : List Addr} (c : Cls K C) (n : NoAttr K C f) (r : ∀ C ∈ cs, Cls K C ∧ NoAttr K C f) : ∀ D ∈ C :: cs, Cls K D ∧ NoAttr K D f := fun D h => by
  rcases List.mem_cons.mp h with rfl | h
  · exact ⟨c, n⟩
  · exact r D h
theorem mt_mk {k' : Nat} {sp : SpD} (c : Cls X.K C) (hm : Meth X.K C m g) (F : FnD X.prog X.w X.K X.mg X.base k' g fd ps sp) (hb : Binds X.K fd ps []) (hk : k' ≤ k) : MT X m k C sp := ⟨c, g, hm, k', fd, ps, hk, F, hb⟩
/-! C(..), by a promise of the whole -/
theorem low_mkM {spI spC : SpD} (hC : ∀ vs S Q Z, spC vs S Q Z → ∀ x dx, S x = none → S dx = none → dx ≠ x → spI (.ref x :: vs) (put S x (.ins C dx [])) (fun v S2 => v = .non ∧ Q (.ref x) S2) Z) :
    ∀ σ H Q, low X.K W (dCall spC das) σ H Q → tMakeG C (lowF X.K spI) (WE W) (lowA X.K W das) σ H Q := fun σ H Q ⟨ρ, S, Qh, Xh, hσ, hS, h, k, x⟩ =>
  ⟨ρ, S, _, Xh, hσ, hS, h, fun ds S1 vs H1 q1 t1 r1 a1 y dx ny nd ne => by
    have t2 : Tk X.K H1 (upd H1 dx (.own y)) := Tk.new nd
    have n2 : upd H1 dx (.own y) y = none := by rw [upd_ne ne.symm]; exact ny
    have t3 := t2.trans (Tk.new (o := .ins C dx []) n2)
    refine ⟨_, _, _, Xh, .cons (.ref y) (r1.mono t3), (a1.tup nd).new n2 (.mins upd_same .nil), hC ds S1 Qh Xh q1 y dx (a1.free ny) (a1.free nd) ne, fun d S' v H' q t r a => ?_, (x.mono t1).mono t3⟩
    obtain ⟨rfl, q⟩ := q
    exact ⟨r.i_non, k _ _ _ _ q ((t1.trans t3).trans t) (.ref y) a⟩, x⟩
theorem d_mkM {spI spC : SpD} {fI : Addr} (hC : ∀ vs S Q Z, spC vs S Q Z → ∀ x dx, S x = none → S dx = none → dx ≠ x → spI (.ref x :: vs) (put S x (.ins C dx [])) (fun v S2 => v = .non ∧ Q (.ref x) S2) Z)
    (M : Mk X.K C fI) (F : FnD X.prog X.w X.K X.mg X.base k fI fd ps spI) (hr : RoomG (k + 1) X.A) (hm : X.mg x = some (.ref C)) (hb : Binds X.K fd ps []) (tk : Takes X W) (ha : PA X (e :: es) (lowA X.K W das)) (hg : Gl X x := by rfl)
    (hdb : (x == ("__debug__" : Str)) = false := by decide) (he : starEach (e :: es) X.env = (false, eval e X.env) :: starEach es X.env := by rfl) (hpl : (backTo pos (starEach es X.env)).any (·.1) = false := by rfl) :
    PE X (.Call (.Name x p) (e :: es) [] pos) (low X.K W (dCall spC das)) := pei (pe_makeG (E := WE W) M F hr hg hm hb (fun σ => passAt tk σ) ha hdb he hpl) (low_mkM hC)
theorem d_mkM0 {spI spC : SpD} {fI : Addr} (hC : ∀ vs S Q Z, spC vs S Q Z → ∀ x dx, S x = none → S dx = none → dx ≠ x → spI (.ref x :: vs) (put S x (.ins C dx [])) (fun v S2 => v = .non ∧ Q (.ref x) S2) Z)
    (M : Mk X.K C fI) (F : FnD X.prog X.w X.K X.mg X.base k fI fd ps spI) (hr : RoomG (k + 1) X.A) (hm : X.mg x = some (.ref C)) (hb : Binds X.K fd ps []) (tk : Takes X W) (hg : Gl X x := by rfl) (hdb : (x == ("__debug__" : Str)) = false := by decide) :
    PE X (.Call (.Name x p) [] [] pos) (low X.K W (dCall spC dNil)) := pei (pe_makeG0 (E := WE W) M F hr hg hm hb (fun σ => passAt tk σ) hdb) fun σ H Q h => by
  obtain ⟨ρ, S, Qh, Xh, hσ, hS, h, k, x⟩ := low_mkM hC σ H Q h
  exact k [] S [] H h (Tk.refl H) .nil hS
theorem low_mkV {spI spC : SpD} (hC : ∀ vs S Q Z, spC vs S Q Z → ∀ x dx, S x = none → S dx = none → dx ≠ x → spI (.ref x :: vs) (put S x (.ins C dx [])) (fun v S2 => v = .non ∧ frzD (.ref x) S2 Q) Z) :
    ∀ σ H Q, low X.K W (dCall spC das) σ H Q → tMakeG C (lowF X.K spI) (WE W) (lowA X.K W das) σ H (fun v H1 => FZ v H1 Q) := fun σ H Q ⟨ρ, S, Qh, Xh, hσ, hS, h, k, x⟩ =>
  ⟨ρ, S, _, Xh, hσ, hS, h, fun ds S1 vs H1 q1 t1 r1 a1 y dx ny nd ne => by
    have t2 : Tk X.K H1 (upd H1 dx (.own y)) := Tk.new nd
    have n2 : upd H1 dx (.own y) y = none := by rw [upd_ne ne.symm]; exact ny
    have t3 := t2.trans (Tk.new (o := .ins C dx []) n2)
    refine ⟨_, _, _, Xh, .cons (.ref y) (r1.mono t3), (a1.tup nd).new n2 (.mins upd_same .nil), hC ds S1 Qh Xh q1 y dx (a1.free ny) (a1.free nd) ne, fun d S' v H' q t r a => ?_, (x.mono t1).mono t3⟩
    obtain ⟨rfl, q⟩ := q
    exact ⟨r.i_non, lk_frzD (.ref y) a q (k.mono ((t1.trans t3).trans t))⟩, x⟩
theorem d_mkV {spI spC : SpD} {fI : Addr} (hC : ∀ vs S Q Z, spC vs S Q Z → ∀ x dx, S x = none → S dx = none → dx ≠ x → spI (.ref x :: vs) (put S x (.ins C dx [])) (fun v S2 => v = .non ∧ frzD (.ref x) S2 Q) Z)
    (M : Mk X.K C fI) (F : FnD X.prog X.w X.K X.mg X.base k fI fd ps spI) (hr : RoomG (k + 1) X.A) (hm : X.mg x = some (.ref C)) (hb : Binds X.K fd ps []) (tk : Takes X W) (ha : PA X (e :: es) (lowA X.K W das)) (hg : Gl X x := by rfl)
    (hdb : (x == ("__debug__" : Str)) = false := by decide) (he : starEach (e :: es) X.env = (false, eval e X.env) :: starEach es X.env := by rfl) (hpl : (backTo pos (starEach es X.env)).any (·.1) = false := by rfl) :
    PE X (.Call (.Name x p) (e :: es) [] pos) (low X.K W (dCall spC das)) := pei (pe_frz (pe_makeG (E := WE W) M F hr hg hm hb (fun σ => passAt tk σ) ha hdb he hpl)) (low_mkV hC)
theorem d_mkV0 {spI spC : SpD} {fI : Addr} (hC : ∀ vs S Q Z, spC vs S Q Z → ∀ x dx, S x = none → S dx = none → dx ≠ x → spI (.ref x :: vs) (put S x (.ins C dx [])) (fun v S2 => v = .non ∧ frzD (.ref x) S2 Q) Z)
    (M : Mk X.K C fI) (F : FnD X.prog X.w X.K X.mg X.base k fI fd ps spI) (hr : RoomG (k + 1) X.A) (hm : X.mg x = some (.ref C)) (hb : Binds X.K fd ps []) (tk : Takes X W) (hg : Gl X x := by rfl) (hdb : (x == ("__debug__" : Str)) = false := by decide) :
    PE X (.Call (.Name x p) [] [] pos) (low X.K W (dCall spC dNil)) := pei (pe_frz (pe_makeG0 (E := WE W) M F hr hg hm hb (fun σ => passAt tk σ) hdb)) fun σ H Q h => by
  obtain ⟨ρ, S, Qh, Xh, hσ, hS, h, k, x⟩ := low_mkV hC σ H Q h
  exact k [] S [] H h (Tk.refl H) .nil hS
/-- y = [..], frozen -/
theorem ps_fzSet {e : Expr} {te : TE} {i : Nat} {y : Str} {py : Pos} (h : PS X (.Assign [.Name y py] e pos) (tAsg te (gName i))) (hN : X.N.Nodup) (hi : X.N[i]? = some y) : PS X (.Assign [.Name y py] e pos) (fun D σ H => te σ H fun x H1 => ∃ v, σ.set i (some x) = σ.set i (some v) ∧ FZ v H1 fun v H2 => D.nx (σ.set i (some v)) H2) := by
  constructor
  intro pins s σ H D I q
  refine wpAny_mono (h.run pins s σ H { D with nx := fun τ H1 => ∃ v, τ = σ.set i (some v) ∧ FZ v H1 fun v H2 => D.nx (σ.set i (some v)) H2 } I q) (fun fl s' hs => ?_) fun e s' h => h
  cases fl with
  | ret u => exact hs
  | brk => exact hs
  | cont => exact hs
  | next =>
    obtain ⟨τ, H1, J, v, ev, z⟩ := hs
    rw [ev] at J
    rcases z with z | ⟨a, w, rfl, e, hu, z⟩
    · exact ⟨_, H1, J, z⟩
    · obtain ⟨o, I2⟩ := Inv.freeze J e hu
      exact ⟨_, _, I2, z o⟩
theorem s_setLcV {tg iter elt : Expr} {ifs : List Expr} {di : DI} {g : TG} {dg : DG} {dt : DT} {scope : Scope} {own : List (Str × Nat)} {spos : Pos} (i : Nat) {y : Str} {py : Pos} (hc : X.calm = true) (hN : X.N.Nodup) (hsw : swapsWith (.ListComp elt [⟨tg, iter, ifs, 0⟩] scope pos) (some (.Name y py)) spos.line X.env = pure true)
    (hi : PI X tg iter (lowI X.K W di)) (ok : BlkOk X.N X.env.scope scope own)
    (hg : ∀ (s : Shared) (H : Hp) (C : Addr) (cl : List (Str × Addr)) (fp : List Addr), PG (X.blk s H scope (compEnvC scope cl C X.env) fp) tg g) (ng : NG X.K g dg (own.map (·.2)))
    (ht : ∀ (s : Shared) (H : Hp) (C : Addr) (cl : List (Str × Addr)) (fp : List Addr), PTs (X.blk s H scope (compEnvC scope cl C X.env) fp) ifs (lowT X.K W0 dt))
    (he : ∀ (s : Shared) (H : Hp) (C : Addr) (cl : List (Str × Addr)) (fp : List Addr), PE (X.blk s H scope (compEnvC scope cl C X.env) fp) elt (low X.K W0 de))
    (hy : X.N[i]? = some y := by rfl) (hyl : X.env.scope.names.lookup y = some .local := by rfl) (hs : ∀ x, foldedSetIterable iter X.env x = pure x := by intro _; rfl) :
    PS X (.Assign [.Name y py] (.ListComp elt [⟨tg, iter, ifs, 0⟩] scope pos) spos) (lowS X.K W (dAsg (dFrz (dLc di dg dt de (own.map (·.2)))) (gN i))) := psi (ps_fzSet (ps_setLc hc hN hy hyl hsw hi ok hg ht he hs) hN hy) fun D σ H ⟨ρ, S, Dh, hσ, hS, h, k⟩ => by
  exact low_lc ng σ H _ ⟨ρ, S, _, _, hσ, hS, h, fun d S1 v H1 q t r a => ⟨v, rfl, lk_frzD r a q fun d2 S2 v2 H2 q2 t2 r2 a2 => k.nx _ S2 _ H2 q2 (t.trans t2) ((hσ.mono (t.trans t2)).set i r2) a2⟩, k.lx hσ⟩
end
theorem ot_nil {K : PySem.W.Frag} : ∀ C ∈ ([] : List Addr), OwnT K C := fun _ h => by cases h
theorem ot_own {K : PySem.W.Frag} {C : Addr} {cs : List Addr} (h : OwnT K C) (r : ∀ C ∈ cs, OwnT K C) : ∀ D ∈ C :: cs, OwnT K D := fun D q => by
  rcases List.mem_cons.mp q with rfl | q
  · exact h
  · exact r D q
theorem ot_nil2 {K : PySem.W.Frag} : ∀ p ∈ ([] : List (Addr × Addr × Bool)), PySem.W.kitOne K (.ref p.1) (.ref p.2.1) = some p.2.2 := fun _ h => by cases h
theorem ot_sub {K : PySem.W.Frag} {C D : Addr} {b : Bool} {cs : List (Addr × Addr × Bool)} (h : PySem.W.kitOne K (.ref C) (.ref D) = some b) (r : ∀ p ∈ cs, PySem.W.kitOne K (.ref p.1) (.ref p.2.1) = some p.2.2) : ∀ p ∈ (C, D, b) :: cs, PySem.W.kitOne K (.ref p.1) (.ref p.2.1) = some p.2.2 := fun p q => by
  rcases List.mem_cons.mp q with rfl | q
  · exact h
  · exact r p q
theorem kit_self {K : PySem.W.Frag} {C : Addr} : PySem.W.kitOne K (.ref C) (.ref C) = some true := by
  unfold PySem.W.kitOne
  rw [if_pos (by simp)]
theorem nb6 {K : PySem.W.Frag} {C : Addr} (h1 : PySem.W.mroIn K C (.type "int") = some false) (h2 : PySem.W.mroIn K C (.type "bool") = some false) (h3 : PySem.W.mroIn K C (.type "str") = some false) (h4 : PySem.W.mroIn K C (.type "tuple") = some false)
    (h5 : PySem.W.mroIn K C (.type "list") = some false) (h6 : PySem.W.mroIn K C (.type "dict") = some false) : ∀ n ∈ tyNames, PySem.W.mroIn K C (.type n) = some false := by
  intro n hn
  simp only [tyNames, List.mem_cons, List.not_mem_nil, or_false] at hn
  rcases hn with rfl | rfl | rfl | rfl | rfl | rfl <;> assumption
end VD

/-! fields of the program's classes, printed by cls.py -/
namespace VD
open PySem PySem.Spec PyProof.Rows L2
theorem ex_one {C : Addr} {s : SpD} {P : SpD → Prop} : (∃ sp, (C, sp) ∈ [(C, s)] ∧ P sp) = P s := propext ⟨fun ⟨sp, h, p⟩ => by rw [List.mem_singleton] at h; cases h; exact p, fun p => ⟨s, List.mem_singleton.mpr rfl, p⟩⟩
theorem mem_one {C : Addr} : (C ∈ [C]) = True := eq_true (by simp)
theorem mem_fst {C : Addr} {cs : List Addr} : (C ∈ C :: cs) = True := eq_true (by simp)
def o_Reader (d0 d1 d2 : Dv) : List (Str × Dv) := [(Str.ofString "row", d0), (Str.ofString "at", d1), (Str.ofString "last", d2)]
def v_Reader (A : Ad) (d0 d1 d2 : Dv) : Dv := .obj A.Reader ((o_Reader d0 d1 d2).map (·.1)) ((o_Reader d0 d1 d2).map (·.2))
theorem i_Reader {A : Ad} {d0 d1 d2 : Dv} {S : Sto} {R : Addr → List Str → List Dv → Prop} : insOf (v_Reader A d0 d1 d2) S R = R A.Reader ((o_Reader d0 d1 d2).map (·.1)) ((o_Reader d0 d1 d2).map (·.2)) := rfl
theorem l_Reader {d0 d1 d2 : Dv} : ((o_Reader d0 d1 d2).length < 1000) = True := eq_true (by show 3 < 1000; decide)
theorem h_Reader_next_number {d0 d1 d2 : Dv} : (getF (Str.ofString "next_number") ((o_Reader d0 d1 d2).map (·.1)) ((o_Reader d0 d1 d2).map (·.2)) = none) = True := eq_true rfl
theorem h_Reader_next_integer {d0 d1 d2 : Dv} : (getF (Str.ofString "next_integer") ((o_Reader d0 d1 d2).map (·.1)) ((o_Reader d0 d1 d2).map (·.2)) = none) = True := eq_true rfl
theorem h_Reader_next_integers {d0 d1 d2 : Dv} : (getF (Str.ofString "next_integers") ((o_Reader d0 d1 d2).map (·.1)) ((o_Reader d0 d1 d2).map (·.2)) = none) = True := eq_true rfl
theorem h_Reader_next_byte {d0 d1 d2 : Dv} : (getF (Str.ofString "next_byte") ((o_Reader d0 d1 d2).map (·.1)) ((o_Reader d0 d1 d2).map (·.2)) = none) = True := eq_true rfl
theorem h_Reader_finish {d0 d1 d2 : Dv} : (getF (Str.ofString "finish") ((o_Reader d0 d1 d2).map (·.1)) ((o_Reader d0 d1 d2).map (·.2)) = none) = True := eq_true rfl
theorem g_Reader_row {d0 d1 d2 : Dv} : getF (Str.ofString "row") ((o_Reader d0 d1 d2).map (·.1)) ((o_Reader d0 d1 d2).map (·.2)) = some d0 := rfl
theorem p_Reader_row {d0 d1 d2 x : Dv} : putFD (Str.ofString "row") x (o_Reader d0 d1 d2) = o_Reader x d1 d2 := rfl
theorem k_Reader_row {d0 d1 d2 : Dv} : (o_Reader d0 d1 d2).lookup (Str.ofString "row") = some d0 := rfl
theorem n_Reader_row {x : Dv} : putFD (Str.ofString "row") x [] = [(Str.ofString "row", x)] := rfl
theorem g_Reader_at {d0 d1 d2 : Dv} : getF (Str.ofString "at") ((o_Reader d0 d1 d2).map (·.1)) ((o_Reader d0 d1 d2).map (·.2)) = some d1 := rfl
theorem p_Reader_at {d0 d1 d2 x : Dv} : putFD (Str.ofString "at") x (o_Reader d0 d1 d2) = o_Reader d0 x d2 := rfl
theorem k_Reader_at {d0 d1 d2 : Dv} : (o_Reader d0 d1 d2).lookup (Str.ofString "at") = some d1 := rfl
theorem n_Reader_at {d0 x : Dv} : putFD (Str.ofString "at") x [(Str.ofString "row", d0)] = [(Str.ofString "row", d0), (Str.ofString "at", x)] := rfl
theorem g_Reader_last {d0 d1 d2 : Dv} : getF (Str.ofString "last") ((o_Reader d0 d1 d2).map (·.1)) ((o_Reader d0 d1 d2).map (·.2)) = some d2 := rfl
theorem p_Reader_last {d0 d1 d2 x : Dv} : putFD (Str.ofString "last") x (o_Reader d0 d1 d2) = o_Reader d0 d1 x := rfl
theorem k_Reader_last {d0 d1 d2 : Dv} : (o_Reader d0 d1 d2).lookup (Str.ofString "last") = some d2 := rfl
theorem n_Reader_last {d0 d1 x : Dv} : putFD (Str.ofString "last") x [(Str.ofString "row", d0), (Str.ofString "at", d1)] = o_Reader d0 d1 x := rfl
end VD

namespace Lw
open PySem PySem.Spec PyProof.Rows L2 VD
theorem revInd {α : Type} {motive : List α → Prop} (nil : motive []) (snoc : ∀ xs x, motive xs → motive (xs ++ [x])) (xs : List α) : motive xs := by
  have h : ∀ n (xs : List α), xs.length = n → motive xs := by
    intro n
    induction n with
    | zero => intro xs h; obtain rfl := List.length_eq_zero_iff.mp h; exact nil
    | succ n ih =>
      intro xs h
      rcases List.eq_nil_or_concat xs with rfl | ⟨ys, y, rfl⟩
      · exact nil
      · rw [List.concat_eq_append] at h ⊢
        exact snoc ys y (ih ys (by simpa using h))
  exact h _ xs rfl
theorem rdIx_tup {xs : List Dv} {i : Int} {S : Sto} {Q : QD} : rdIx (.tup xs) (.int i) S Q = ∃ d, atI xs i = some d ∧ Q d S := rfl
theorem rdIx_rol {xs : List Dv} {i : Int} {S : Sto} {Q : QD} : rdIx (.rol xs) (.int i) S Q = ∃ d, atI xs i = some d ∧ Q d S := rfl
theorem rdIx_ref {xs : List Dv} {a : Addr} {i : Int} {S : Sto} {Q : QD} (h : S a = some (.lst xs)) : rdIx (.ref a) (.int i) S Q = ∃ d, atI xs i = some d ∧ Q d S := by
  unfold rdIx
  dsimp only
  rw [h]
theorem ix_ref {xs : List Dv} {a : Addr} {i : Int} {S : Sto} {Q : QD} {d : Dv} (h : S a = some (.lst xs)) (e : atI xs i = some d) (q : Q d S) : rdIx (.ref a) (.int i) S Q := by
  rw [rdIx_ref h]
  exact ⟨d, e, q⟩
theorem isn_non : VD.isNon .non = true := rfl
theorem isn_bl {b : Bool} : VD.isNon (.bl b) = false := rfl
theorem isn_int {b : Int} : VD.isNon (.int b) = false := rfl
theorem isn_str {b : Str} : VD.isNon (.str b) = false := rfl
theorem isn_ref {b : Addr} : VD.isNon (.ref b) = false := rfl
theorem isn_tup {b : List Dv} : VD.isNon (.tup b) = false := rfl
theorem isn_rol {b : List Dv} : VD.isNon (.rol b) = false := rfl
theorem isn_obj {C : Addr} {ns : List Str} {b : List Dv} : VD.isNon (.obj C ns b) = false := rfl
section
variable {xs : List Dv} {a : Addr} {i : Int} {S : Sto} {Q : QD} {z : Str} {R : List Dv → Prop}
theorem rdIx_put : rdIx (.ref a) (.int i) (put S a (.lst xs)) Q = ∃ d, atI xs i = some d ∧ Q d (put S a (.lst xs)) := rdIx_ref put_same
theorem rdLen_tup : rdLen [.tup xs] S Q = Q (.int xs.length) S := rfl
theorem rdLen_rol : rdLen [.rol xs] S Q = Q (.int xs.length) S := rfl
theorem rdLen_str : rdLen [.str z] S Q = (z.length ≤ sizeLine ∧ Q (.int z.length) S) := rfl
theorem rdLen_ref (h : S a = some (.lst xs)) : rdLen [.ref a] S Q = Q (.int xs.length) S := by unfold rdLen; dsimp only; rw [h]
theorem rdLen_put : rdLen [.ref a] (put S a (.lst xs)) Q = Q (.int xs.length) (put S a (.lst xs)) := rdLen_ref put_same
theorem lstOf_rol : lstOf (.rol xs) S R = R xs := rfl
theorem lstOf_ref (h : S a = some (.lst xs)) : lstOf (.ref a) S R = R xs := by unfold lstOf; dsimp only; rw [h]
theorem lstOf_put : lstOf (.ref a) (put S a (.lst xs)) R = R xs := lstOf_ref put_same
theorem seqOf_tup : seqOf (.tup xs) S R = R xs := rfl
theorem seqOf_rol : seqOf (.rol xs) S R = R xs := rfl
theorem seqOf_ref (h : S a = some (.lst xs)) : seqOf (.ref a) S R = R xs := by unfold seqOf; dsimp only; rw [h]
theorem seqOf_put : seqOf (.ref a) (put S a (.lst xs)) R = R xs := seqOf_ref put_same
theorem insOf_ref {C dx : Addr} {fs : List (Str × Dv)} {R : Addr → List Str → List Dv → Prop} (h : S a = some (.ins C dx fs)) : insOf (.ref a) S R = R C (fs.map (·.1)) (fs.map (·.2)) := by unfold insOf; dsimp only; rw [h]
theorem insOf_put {C dx : Addr} {fs : List (Str × Dv)} {R : Addr → List Str → List Dv → Prop} : insOf (.ref a) (put S a (.ins C dx fs)) R = R C (fs.map (·.1)) (fs.map (·.2)) := insOf_ref put_same
theorem frz_tup : frzD (.tup xs) S Q = Q (.tup xs) S := rfl
theorem frz_rol : frzD (.rol xs) S Q = Q (.rol xs) S := rfl
theorem frz_int : frzD (.int i) S Q = Q (.int i) S := rfl
theorem frz_bl {b : Bool} : frzD (.bl b) S Q = Q (.bl b) S := rfl
theorem frz_non : frzD .non S Q = Q .non S := rfl
theorem frz_str : frzD (.str z) S Q = Q (.str z) S := rfl
theorem frz_obj {C : Addr} {ns : List Str} : frzD (.obj C ns xs) S Q = Q (.obj C ns xs) S := rfl
end
/-- a list at its end: frozen, and gone from the store -/
theorem frz_new {xs : List Dv} {a : Addr} {S : Sto} {Q : QD} (h : S a = none) (q : Q (.rol xs) S) : frzD (.ref a) (put S a (.lst xs)) Q := by
  unfold frzD
  dsimp only
  rw [put_same, rm_put h]
  exact q
theorem tup_new {xs : List Dv} {a : Addr} {S : Sto} {Q : QD} (h : S a = none) (q : Q (.tup xs) S) : rdTuple [.ref a] (put S a (.lst xs)) Q := by
  unfold rdTuple seqOf
  dsimp only
  rw [put_same]
  exact ⟨S, Sub.new h, q⟩
theorem tup_rol {xs : List Dv} {S : Sto} {Q : QD} (q : Q (.tup xs) S) : rdTuple [.rol xs] S Q := ⟨S, Sub.refl S, q⟩
theorem tup_tup {xs : List Dv} {S : Sto} {Q : QD} (q : Q (.tup xs) S) : rdTuple [.tup xs] S Q := ⟨S, Sub.refl S, q⟩
theorem all_rol {bs : List Bool} {S : Sto} {Q : QD} (q : Q (.bl (bs.all id)) S) : rdAll [.rol (bs.map Dv.bl)] S Q := ⟨bs, rfl, S, Sub.refl S, q⟩
theorem any_rol {bs : List Bool} {S : Sto} {Q : QD} (q : Q (.bl (bs.any id)) S) : rdAny [.rol (bs.map Dv.bl)] S Q := ⟨bs, rfl, S, Sub.refl S, q⟩
theorem sl2 : 2 ≤ sizeLine := by rw [sizeLine_eq]; decide
theorem slK {n : Nat} (h : n ≤ 1000000 := by decide) : n ≤ sizeLine := by rw [sizeLine_eq]; omega
/-! ### kinds of things -/
section
variable (A : Ad)
def known (S : Sto) (d : Dv) : Prop := ∃ t, tyD S d = some t ∧ ∀ C, t = .ref C → C ∈ A.ot.cs
end
section
variable {A : Ad}
theorem tyD_sub {S T : Sto} {d : Dv} {t : Value} (h : tyD S d = some t) (s : Sub S T) : tyD T d = some t := by
  cases d with
  | ref a =>
    dsimp only [tyD] at h ⊢
    cases e : S a with
    | none => rw [e] at h; cases h
    | some m => rw [s a m e]; rw [e] at h; exact h
  | _ => exact h
theorem known.sub {S T : Sto} {d : Dv} (h : known A S d) (s : Sub S T) : known A T d := by
  obtain ⟨t, h1, h2⟩ := h
  exact ⟨t, tyD_sub h1 s, h2⟩
theorem kn_non {S : Sto} : known A S .non := ⟨_, rfl, fun _ e => by cases e⟩
theorem kn_bl {S : Sto} {b : Bool} : known A S (.bl b) := ⟨_, rfl, fun _ e => by cases e⟩
theorem kn_int {S : Sto} {b : Int} : known A S (.int b) := ⟨_, rfl, fun _ e => by cases e⟩
theorem kn_str {S : Sto} {b : Str} : known A S (.str b) := ⟨_, rfl, fun _ e => by cases e⟩
theorem kn_tup {S : Sto} {b : List Dv} : known A S (.tup b) := ⟨_, rfl, fun _ e => by cases e⟩
theorem kn_rol {S : Sto} {b : List Dv} : known A S (.rol b) := ⟨_, rfl, fun _ e => by cases e⟩
theorem kn_rod {S : Sto} {k : List Key} {b : List Dv} : known A S (.rod k b) := ⟨_, rfl, fun _ e => by cases e⟩
/-- plain: by value and of no own class -/
def isPl : Dv → Bool
  | .non | .bl _ | .int _ | .str _ | .tup _ | .rol _ | .rod _ _ => true
  | _ => false
theorem kn_pl {S : Sto} {d : Dv} (h : isPl d = true) : known A S d := by
  cases d <;> first | (cases h; done) | exact ⟨_, rfl, fun _ e => by cases e⟩
def isInt : Dv → Bool
  | .int _ => true
  | _ => false
def isBl : Dv → Bool
  | .bl _ => true
  | _ => false
def isTup : Dv → Bool
  | .tup _ => true
  | _ => false
def isStr : Dv → Bool
  | .str _ => true
  | _ => false
/-- one class of the built-in ones -/
theorem isi_of {S : Sto} {d : Dv} {n : String} {Q : QD} {b : Bool} (h : known A S d) (hn : tyNames.contains n = true) (hb : ∀ t, tyD S d = some (.type t) → isiB t n = b) (ho : ∀ C, tyD S d = some (.ref C) → b = false) (q : Q (.bl b) S) : rdIsi A.ot [d, .ty n] S Q := by
  obtain ⟨t, h1, h2⟩ := h
  unfold rdIsi
  rcases tyD_in h1 with ⟨m, hm, rfl⟩ | ⟨C, rfl⟩
  · refine ⟨_, _, h1, .bb m n hn, ?_⟩
    rw [hb m h1]
    exact q
  · refine ⟨_, _, h1, .ob C n (h2 C rfl) hn, ?_⟩
    rw [← ho C h1]
    exact q
theorem tyD_ref {S : Sto} {a : Addr} {t : String} (h : tyD S (.ref a) = some (.type t)) : t = "list" ∨ t = "dict" := by
  dsimp only [tyD] at h
  split at h
  · cases h; exact .inl rfl
  · cases h; exact .inr rfl
  · cases h
  · cases h
theorem isi_int {S : Sto} {d : Dv} {Q : QD} (h : known A S d) (q : Q (.bl (isInt d || isBl d)) S) : rdIsi A.ot [d, .ty "int"] S Q := isi_of h (by decide) (fun t ht => by
  cases d with
  | ref a => rcases tyD_ref ht with rfl | rfl <;> rfl
  | ty n => cases ht
  | _ => cases ht <;> rfl) (fun C ht => by cases d <;> first | (cases ht; done) | rfl) q
theorem isi_bool {S : Sto} {d : Dv} {Q : QD} (h : known A S d) (q : Q (.bl (isBl d)) S) : rdIsi A.ot [d, .ty "bool"] S Q := isi_of h (by decide) (fun t ht => by
  cases d with
  | ref a => rcases tyD_ref ht with rfl | rfl <;> rfl
  | ty n => cases ht
  | _ => cases ht <;> rfl) (fun C ht => by cases d <;> first | (cases ht; done) | rfl) q
theorem isi_tuple {S : Sto} {d : Dv} {Q : QD} (h : known A S d) (q : Q (.bl (isTup d)) S) : rdIsi A.ot [d, .ty "tuple"] S Q := isi_of h (by decide) (fun t ht => by
  cases d with
  | ref a => rcases tyD_ref ht with rfl | rfl <;> rfl
  | ty n => cases ht
  | _ => cases ht <;> rfl) (fun C ht => by cases d <;> first | (cases ht; done) | rfl) q
theorem isi_str {S : Sto} {d : Dv} {Q : QD} (h : known A S d) (q : Q (.bl (isStr d)) S) : rdIsi A.ot [d, .ty "str"] S Q := isi_of h (by decide) (fun t ht => by
  cases d with
  | ref a => rcases tyD_ref ht with rfl | rfl <;> rfl
  | ty n => cases ht
  | _ => cases ht <;> rfl) (fun C ht => by cases d <;> first | (cases ht; done) | rfl) q
/-- a tuple or a list -/
def isSeq (S : Sto) : Dv → Bool
  | .tup _ | .rol _ => true
  | .ref a => match S a with
    | some (.lst _) => true
    | _ => false
  | _ => false
theorem isi_two {S : Sto} {d : Dv} {n1 n2 : String} {Q : QD} {b : Bool} (h : known A S d) (hn : tyNames.contains n1 = true) (hn2 : tyNames.contains n2 = true) (hb : ∀ t, tyD S d = some (.type t) → (isiB t n1 || isiB t n2) = b) (ho : ∀ C, tyD S d = some (.ref C) → b = false) (q : Q (.bl b) S) :
    rdIsi A.ot [d, .tup [.ty n1, .ty n2]] S Q := by
  obtain ⟨t, h1, h2⟩ := h
  unfold rdIsi
  rcases tyD_in h1 with ⟨m, hm, rfl⟩ | ⟨C, rfl⟩
  · refine ⟨_, _, h1, .cons (.bb m n1 hn) (.cons (.bb m n2 hn2) .nil), (fun _ e => by cases e), ?_⟩
    rw [Bool.or_false, hb m h1]
    exact q
  · refine ⟨_, _, h1, .cons (.ob C n1 (h2 C rfl) hn) (.cons (.ob C n2 (h2 C rfl) hn2) .nil), h2, ?_⟩
    rw [ho C h1] at q
    exact q
theorem isSeq_of {S : Sto} {d : Dv} (h : known A S d) : (∀ t, tyD S d = some (.type t) → (isiB t "list" || isiB t "tuple") = isSeq S d) ∧ ∀ C, tyD S d = some (.ref C) → isSeq S d = false := by
  refine ⟨fun t ht => ?_, fun C ht => ?_⟩
  · cases d with
    | ref a =>
      dsimp only [tyD] at ht
      unfold isSeq
      split at ht <;> first | (cases ht; done) | (rename_i e; cases ht; dsimp only; rw [e]; rfl)
    | ty n => cases ht
    | _ => cases ht <;> rfl
  · cases d with
    | ref a =>
      dsimp only [tyD] at ht
      unfold isSeq
      split at ht <;> first | (cases ht; done) | (rename_i e; dsimp only; rw [e])
    | _ => first | (cases ht; done) | rfl
theorem isi_lt {S : Sto} {d : Dv} {Q : QD} (h : known A S d) (q : Q (.bl (isSeq S d)) S) : rdIsi A.ot [d, .tup [.ty "list", .ty "tuple"]] S Q := isi_two h (by decide) (by decide) (isSeq_of h).1 (isSeq_of h).2 q
theorem isi_tl {S : Sto} {d : Dv} {Q : QD} (h : known A S d) (q : Q (.bl (isSeq S d)) S) : rdIsi A.ot [d, .tup [.ty "tuple", .ty "list"]] S Q := isi_two h (by decide) (by decide) (fun t ht => by rw [Bool.or_comm]; exact (isSeq_of h).1 t ht) (isSeq_of h).2 q
end
/-! ### checks -/
def sp_is_integer (A : Ad) : SpD := fun ds S Q _ => ∃ d, ds = [d] ∧ known A S d ∧ Q (.bl (isInt d)) S
theorem len_is_integer (A : Ad) : ∀ ds S Q X, sp_is_integer A ds S Q X → ds.length = 1 := by rintro _ _ _ _ ⟨_, rfl, _⟩; rfl
def r_is_integer (A : Ad) : DS := (dRet (dAndV (dCB (rdIsi A.ot) (dCons (dVar 0) (dCons (dC (.ty "int")) dNil))) (dNotV (dCB (rdIsi A.ot) (dCons (dVar 0) (dCons (dC (.ty "bool")) dNil))))))
theorem rd_is_integer (A : Ad) : Rd (r_is_integer A) 1 (sp_is_integer A) := by
  rintro ds S Q X ⟨d, rfl, hk, h⟩
  unfold r_is_integer
  simp only [dSeq, dAsg, dRet, dRetN, dDrop, dRaise, dBreak, dCont, dPar, dAug, dFor, dNext, dSetF, dAugF, dRaiseF, dIfS, dTest, dOp, dVar, dC, dCB, dCons, dNil, dCall, dAndV, dOrV, dNotV, dAndT, dOrT, dNotT, dIf, dTup, dLst, dLstV, dSl, dSlV, rdSlV, oSome, oNone, dNeg, gN, gT, gConsD, gNilD, gSubD, gFldD, dChain, dLc, dBM, isLst, iSeqD, iR1, iR2, iR3, dYes, rdAddV, rdMulV, rdSub, rdDiv, rdMod, rdPow, rdIAdd, rdCmp, rdIsN, isn_non, isn_bl, isn_int, isn_str, isn_ref, isn_tup, isn_rol, isn_obj, rdEqG, rdIx_tup, rdIx_rol, rdIx_put, rdSet, rdLen_tup, rdLen_rol, rdLen_str, rdLen_put, rdInt1, rdInt, rdInt2, rdAppend, rdExt, rdPopAt, rdMaxL, rdMinL, rdListV, rdIsB, isBlV, rdStrI, rdIntS, dFrz, dFld, insOf_put, dMeth, lstOf_rol, lstOf_put, seqOf_tup, seqOf_rol, seqOf_put, frz_tup, frz_rol, frz_int, frz_bl, frz_non, frz_str, frz_obj, startN, wipeD, List.map_cons, List.map_nil, List.length_cons, List.length_nil, Nat.zero_add, Nat.sub_self, Nat.reduceAdd, Nat.reduceSub, List.replicate_succ, List.replicate_zero, List.cons_append, List.nil_append, List.append_nil, List.getElem?_cons_zero, List.getElem?_cons_succ, List.set_cons_zero, List.set_cons_succ, Option.some.injEq, exists_eq_left', DEnds.xd, atI_0, atI_1, atI_2, atI_3, atI_4, atI_5, atI_6, atI_7, ixN_50, ixN_51, ixN_52, ixN_53, ixN_54, ixN_30, ixN_31, ixN_32, put_same, put_put, true_and, and_true, decide_true, decide_false, Bool.not_true, Bool.not_false, Bool.false_eq_true, if_true, if_false, decide_eq_true_eq, Bool.not_eq_true', decide_eq_false_iff_not, mem_one, ex_one, and_self]
  refine isi_int hk ?_
  cases e : (isInt d || isBl d) with
  | true =>
    refine isi_bool hk ?_
    cases d <;> first | exact h | simp [isInt, isBl] at e
  | false =>
    cases d <;> first | exact h | simp [isInt, isBl] at e
def within (d : Dv) (a b : Int) : Bool := match d with
  | .int i => decide (a ≤ i) && decide (i ≤ b)
  | _ => false
theorem within_i {d : Dv} {a b : Int} : within d a b = true ↔ ∃ i, d = .int i ∧ a ≤ i ∧ i ≤ b := by
  cases d <;> simp [within]
def sp_is_within (A : Ad) : SpD := fun ds S Q _ => ∃ d a b, ds = [d, .int a, .int b] ∧ known A S d ∧ Q (.bl (within d a b)) S
theorem len_is_within (A : Ad) : ∀ ds S Q X, sp_is_within A ds S Q X → ds.length = 3 := by rintro _ _ _ _ ⟨_, _, _, rfl, _⟩; rfl
def r_is_within (A : Ad) : DS := (dRet (dAndV (dCall (sp_is_integer A) (dCons (dVar 0) dNil)) (dChain rdLe rdLe (dVar 1) (dVar 0) (dVar 2))))
theorem rd_is_within (A : Ad) : Rd (r_is_within A) 3 (sp_is_within A) := by
  rintro ds S Q X ⟨d, a, b, rfl, hk, h⟩
  unfold r_is_within
  simp only [dSeq, dAsg, dRet, dRetN, dDrop, dRaise, dBreak, dCont, dPar, dAug, dFor, dNext, dSetF, dAugF, dRaiseF, dIfS, dTest, dOp, dVar, dC, dCB, dCons, dNil, dCall, dAndV, dOrV, dNotV, dAndT, dOrT, dNotT, dIf, dTup, dLst, dLstV, dSl, dSlV, rdSlV, oSome, oNone, dNeg, gN, gT, gConsD, gNilD, gSubD, gFldD, dChain, dLc, dBM, isLst, iSeqD, iR1, iR2, iR3, dYes, rdAddV, rdMulV, rdSub, rdDiv, rdMod, rdPow, rdIAdd, rdCmp, rdIsN, isn_non, isn_bl, isn_int, isn_str, isn_ref, isn_tup, isn_rol, isn_obj, rdEqG, rdIx_tup, rdIx_rol, rdIx_put, rdSet, rdLen_tup, rdLen_rol, rdLen_str, rdLen_put, rdInt1, rdInt, rdInt2, rdAppend, rdExt, rdPopAt, rdMaxL, rdMinL, rdListV, rdIsB, isBlV, rdStrI, rdIntS, dFrz, dFld, insOf_put, dMeth, lstOf_rol, lstOf_put, seqOf_tup, seqOf_rol, seqOf_put, frz_tup, frz_rol, frz_int, frz_bl, frz_non, frz_str, frz_obj, startN, wipeD, List.map_cons, List.map_nil, List.length_cons, List.length_nil, Nat.zero_add, Nat.sub_self, Nat.reduceAdd, Nat.reduceSub, List.replicate_succ, List.replicate_zero, List.cons_append, List.nil_append, List.append_nil, List.getElem?_cons_zero, List.getElem?_cons_succ, List.set_cons_zero, List.set_cons_succ, Option.some.injEq, exists_eq_left', DEnds.xd, atI_0, atI_1, atI_2, atI_3, atI_4, atI_5, atI_6, atI_7, ixN_50, ixN_51, ixN_52, ixN_53, ixN_54, ixN_30, ixN_31, ixN_32, put_same, put_put, true_and, and_true, decide_true, decide_false, Bool.not_true, Bool.not_false, Bool.false_eq_true, if_true, if_false, decide_eq_true_eq, Bool.not_eq_true', decide_eq_false_iff_not, mem_one, ex_one, and_self]
  refine ⟨d, rfl, hk, ?_⟩
  cases d with
  | int i =>
    unfold within at h
    unfold isInt
    dsimp only
    simp only [dSeq, dAsg, dRet, dRetN, dDrop, dRaise, dBreak, dCont, dPar, dAug, dFor, dNext, dSetF, dAugF, dRaiseF, dIfS, dTest, dOp, dVar, dC, dCB, dCons, dNil, dCall, dAndV, dOrV, dNotV, dAndT, dOrT, dNotT, dIf, dTup, dLst, dLstV, dSl, dSlV, rdSlV, oSome, oNone, dNeg, gN, gT, gConsD, gNilD, gSubD, gFldD, dChain, dLc, dBM, isLst, iSeqD, iR1, iR2, iR3, dYes, rdAddV, rdMulV, rdSub, rdDiv, rdMod, rdPow, rdIAdd, rdCmp, rdIsN, isn_non, isn_bl, isn_int, isn_str, isn_ref, isn_tup, isn_rol, isn_obj, rdEqG, rdIx_tup, rdIx_rol, rdIx_put, rdSet, rdLen_tup, rdLen_rol, rdLen_str, rdLen_put, rdInt1, rdInt, rdInt2, rdAppend, rdExt, rdPopAt, rdMaxL, rdMinL, rdListV, rdIsB, isBlV, rdStrI, rdIntS, dFrz, dFld, insOf_put, dMeth, lstOf_rol, lstOf_put, seqOf_tup, seqOf_rol, seqOf_put, frz_tup, frz_rol, frz_int, frz_bl, frz_non, frz_str, frz_obj, startN, wipeD, List.map_cons, List.map_nil, List.length_cons, List.length_nil, Nat.zero_add, Nat.sub_self, Nat.reduceAdd, Nat.reduceSub, List.replicate_succ, List.replicate_zero, List.cons_append, List.nil_append, List.append_nil, List.getElem?_cons_zero, List.getElem?_cons_succ, List.set_cons_zero, List.set_cons_succ, Option.some.injEq, exists_eq_left', DEnds.xd, atI_0, atI_1, atI_2, atI_3, atI_4, atI_5, atI_6, atI_7, ixN_50, ixN_51, ixN_52, ixN_53, ixN_54, ixN_30, ixN_31, ixN_32, put_same, put_put, true_and, and_true, decide_true, decide_false, Bool.not_true, Bool.not_false, Bool.false_eq_true, if_true, if_false, decide_eq_true_eq, Bool.not_eq_true', decide_eq_false_iff_not, mem_one, ex_one, and_self]
    by_cases h1 : a ≤ i
    · simp only [h1, decide_true, Bool.true_and] at h ⊢
      exact h
    · simp only [h1, decide_false, Bool.false_and] at h ⊢
      exact h
  | _ => exact h
def sp_is_below (A : Ad) : SpD := fun ds S Q _ => ∃ d n, ds = [d, .int n] ∧ known A S d ∧ Q (.bl (within d 0 (n - 1))) S
theorem len_is_below (A : Ad) : ∀ ds S Q X, sp_is_below A ds S Q X → ds.length = 2 := by rintro _ _ _ _ ⟨_, _, rfl, _⟩; rfl
def r_is_below (A : Ad) : DS := (dRet (dCall (sp_is_within A) (dCons (dVar 0) (dCons (dC (.int 0)) (dCons (dOp rdSub (dVar 1) (dC (.int 1))) dNil)))))
theorem rd_is_below (A : Ad) : Rd (r_is_below A) 2 (sp_is_below A) := by
  rintro ds S Q X ⟨d, n, rfl, hk, h⟩
  unfold r_is_below
  simp only [dSeq, dAsg, dRet, dRetN, dDrop, dRaise, dBreak, dCont, dPar, dAug, dFor, dNext, dSetF, dAugF, dRaiseF, dIfS, dTest, dOp, dVar, dC, dCB, dCons, dNil, dCall, dAndV, dOrV, dNotV, dAndT, dOrT, dNotT, dIf, dTup, dLst, dLstV, dSl, dSlV, rdSlV, oSome, oNone, dNeg, gN, gT, gConsD, gNilD, gSubD, gFldD, dChain, dLc, dBM, isLst, iSeqD, iR1, iR2, iR3, dYes, rdAddV, rdMulV, rdSub, rdDiv, rdMod, rdPow, rdIAdd, rdCmp, rdIsN, isn_non, isn_bl, isn_int, isn_str, isn_ref, isn_tup, isn_rol, isn_obj, rdEqG, rdIx_tup, rdIx_rol, rdIx_put, rdSet, rdLen_tup, rdLen_rol, rdLen_str, rdLen_put, rdInt1, rdInt, rdInt2, rdAppend, rdExt, rdPopAt, rdMaxL, rdMinL, rdListV, rdIsB, isBlV, rdStrI, rdIntS, dFrz, dFld, insOf_put, dMeth, lstOf_rol, lstOf_put, seqOf_tup, seqOf_rol, seqOf_put, frz_tup, frz_rol, frz_int, frz_bl, frz_non, frz_str, frz_obj, startN, wipeD, List.map_cons, List.map_nil, List.length_cons, List.length_nil, Nat.zero_add, Nat.sub_self, Nat.reduceAdd, Nat.reduceSub, List.replicate_succ, List.replicate_zero, List.cons_append, List.nil_append, List.append_nil, List.getElem?_cons_zero, List.getElem?_cons_succ, List.set_cons_zero, List.set_cons_succ, Option.some.injEq, exists_eq_left', DEnds.xd, atI_0, atI_1, atI_2, atI_3, atI_4, atI_5, atI_6, atI_7, ixN_50, ixN_51, ixN_52, ixN_53, ixN_54, ixN_30, ixN_31, ixN_32, put_same, put_put, true_and, and_true, decide_true, decide_false, Bool.not_true, Bool.not_false, Bool.false_eq_true, if_true, if_false, decide_eq_true_eq, Bool.not_eq_true', decide_eq_false_iff_not, mem_one, ex_one, and_self]
  exact ⟨d, 0, n - 1, rfl, hk, h⟩
/-! ### rows -/
theorem all_map {xs : List Dv} {f : Dv → Bool} : xs.map (fun x => Dv.bl (f x)) = (xs.map f).map Dv.bl := by rw [List.map_map]; rfl
/-- a tuple whose items are known -/
def knownL (A : Ad) (S : Sto) (d : Dv) : Prop := known A S d ∧ match d with
  | .tup xs => ∀ x ∈ xs, known A S x
  | _ => True
def allT (m : Nat) (f : Dv → Bool) (d : Dv) : Bool := match d with
  | .tup xs => decide ((xs.length : Int) ≤ m) && xs.all f
  | _ => false
def isRow (d : Dv) : Bool := allT 300000 (fun x => within x 0 255) d
def sp_is_row (A : Ad) : SpD := fun ds S Q _ => ∃ d, ds = [d] ∧ knownL A S d ∧ Q (.bl (isRow d)) S
theorem len_is_row (A : Ad) : ∀ ds S Q X, sp_is_row A ds S Q X → ds.length = 1 := by rintro _ _ _ _ ⟨_, rfl, _⟩; rfl
def r_is_row (A : Ad) : DS := (dRet (dAndV (dCB (rdIsi A.ot) (dCons (dVar 0) (dCons (dC (.ty "tuple")) dNil))) (dAndV (dOp rdLe (dCB rdLen (dCons (dVar 0) dNil)) (dC (.int 300000))) (dCB rdAll (dCons (dFrz (dLc (iSeqD (dVar 0)) (gN 1) dYes (dCall (sp_is_below A) (dCons (dVar 1) (dCons (dC (.int 256)) dNil))) [1])) dNil)))))
theorem rd_is_row (A : Ad) : Rd (r_is_row A) 2 (sp_is_row A) := by
  rintro ds S Q X ⟨d, rfl, ⟨hk, hl⟩, h⟩
  unfold r_is_row
  simp only [dSeq, dAsg, dRet, dRetN, dDrop, dRaise, dBreak, dCont, dPar, dAug, dFor, dNext, dSetF, dAugF, dRaiseF, dIfS, dTest, dOp, dVar, dC, dCB, dCons, dNil, dCall, dAndV, dOrV, dNotV, dAndT, dOrT, dNotT, dIf, dTup, dLst, dLstV, dSl, dSlV, rdSlV, oSome, oNone, dNeg, gN, gT, gConsD, gNilD, gSubD, gFldD, dChain, dLc, dBM, isLst, iSeqD, iR1, iR2, iR3, dYes, rdAddV, rdMulV, rdSub, rdDiv, rdMod, rdPow, rdIAdd, rdCmp, rdIsN, isn_non, isn_bl, isn_int, isn_str, isn_ref, isn_tup, isn_rol, isn_obj, rdEqG, rdIx_tup, rdIx_rol, rdIx_put, rdSet, rdLen_tup, rdLen_rol, rdLen_str, rdLen_put, rdInt1, rdInt, rdInt2, rdAppend, rdExt, rdPopAt, rdMaxL, rdMinL, rdListV, rdIsB, isBlV, rdStrI, rdIntS, dFrz, dFld, insOf_put, dMeth, lstOf_rol, lstOf_put, seqOf_tup, seqOf_rol, seqOf_put, frz_tup, frz_rol, frz_int, frz_bl, frz_non, frz_str, frz_obj, startN, wipeD, List.map_cons, List.map_nil, List.length_cons, List.length_nil, Nat.zero_add, Nat.sub_self, Nat.reduceAdd, Nat.reduceSub, List.replicate_succ, List.replicate_zero, List.cons_append, List.nil_append, List.append_nil, List.getElem?_cons_zero, List.getElem?_cons_succ, List.set_cons_zero, List.set_cons_succ, Option.some.injEq, exists_eq_left', DEnds.xd, atI_0, atI_1, atI_2, atI_3, atI_4, atI_5, atI_6, atI_7, ixN_50, ixN_51, ixN_52, ixN_53, ixN_54, ixN_30, ixN_31, ixN_32, put_same, put_put, true_and, and_true, decide_true, decide_false, Bool.not_true, Bool.not_false, Bool.false_eq_true, if_true, if_false, decide_eq_true_eq, Bool.not_eq_true', decide_eq_false_iff_not, mem_one, ex_one, and_self]
  refine isi_tuple hk ?_
  cases d with
  | tup xs =>
    unfold isTup
    dsimp only
    simp only [dSeq, dAsg, dRet, dRetN, dDrop, dRaise, dBreak, dCont, dPar, dAug, dFor, dNext, dSetF, dAugF, dRaiseF, dIfS, dTest, dOp, dVar, dC, dCB, dCons, dNil, dCall, dAndV, dOrV, dNotV, dAndT, dOrT, dNotT, dIf, dTup, dLst, dLstV, dSl, dSlV, rdSlV, oSome, oNone, dNeg, gN, gT, gConsD, gNilD, gSubD, gFldD, dChain, dLc, dBM, isLst, iSeqD, iR1, iR2, iR3, dYes, rdAddV, rdMulV, rdSub, rdDiv, rdMod, rdPow, rdIAdd, rdCmp, rdIsN, isn_non, isn_bl, isn_int, isn_str, isn_ref, isn_tup, isn_rol, isn_obj, rdEqG, rdIx_tup, rdIx_rol, rdIx_put, rdSet, rdLen_tup, rdLen_rol, rdLen_str, rdLen_put, rdInt1, rdInt, rdInt2, rdAppend, rdExt, rdPopAt, rdMaxL, rdMinL, rdListV, rdIsB, isBlV, rdStrI, rdIntS, dFrz, dFld, insOf_put, dMeth, lstOf_rol, lstOf_put, seqOf_tup, seqOf_rol, seqOf_put, frz_tup, frz_rol, frz_int, frz_bl, frz_non, frz_str, frz_obj, startN, wipeD, List.map_cons, List.map_nil, List.length_cons, List.length_nil, Nat.zero_add, Nat.sub_self, Nat.reduceAdd, Nat.reduceSub, List.replicate_succ, List.replicate_zero, List.cons_append, List.nil_append, List.append_nil, List.getElem?_cons_zero, List.getElem?_cons_succ, List.set_cons_zero, List.set_cons_succ, Option.some.injEq, exists_eq_left', DEnds.xd, atI_0, atI_1, atI_2, atI_3, atI_4, atI_5, atI_6, atI_7, ixN_50, ixN_51, ixN_52, ixN_53, ixN_54, ixN_30, ixN_31, ixN_32, put_same, put_put, true_and, and_true, decide_true, decide_false, Bool.not_true, Bool.not_false, Bool.false_eq_true, if_true, if_false, decide_eq_true_eq, Bool.not_eq_true', decide_eq_false_iff_not, mem_one, ex_one, and_self]
    unfold isRow allT at h
    dsimp only at h
    by_cases h1 : (xs.length : Int) ≤ (300000 : Nat)
    · rw [decide_eq_true h1, Bool.true_and] at h
      rw [decide_eq_true (show (xs.length : Int) ≤ 300000 from h1)]
      refine lcV_pure (fun x => Dv.bl (within x 0 255)) (by rw [sizeLine_eq]; omega) (fun _ _ _ => trivial) (fun x hx T Kq hs hq => ?_) ?_
      · simp only [dSeq, dAsg, dRet, dRetN, dDrop, dRaise, dBreak, dCont, dPar, dAug, dFor, dNext, dSetF, dAugF, dRaiseF, dIfS, dTest, dOp, dVar, dC, dCB, dCons, dNil, dCall, dAndV, dOrV, dNotV, dAndT, dOrT, dNotT, dIf, dTup, dLst, dLstV, dSl, dSlV, rdSlV, oSome, oNone, dNeg, gN, gT, gConsD, gNilD, gSubD, gFldD, dChain, dLc, dBM, isLst, iSeqD, iR1, iR2, iR3, dYes, rdAddV, rdMulV, rdSub, rdDiv, rdMod, rdPow, rdIAdd, rdCmp, rdIsN, isn_non, isn_bl, isn_int, isn_str, isn_ref, isn_tup, isn_rol, isn_obj, rdEqG, rdIx_tup, rdIx_rol, rdIx_put, rdSet, rdLen_tup, rdLen_rol, rdLen_str, rdLen_put, rdInt1, rdInt, rdInt2, rdAppend, rdExt, rdPopAt, rdMaxL, rdMinL, rdListV, rdIsB, isBlV, rdStrI, rdIntS, dFrz, dFld, insOf_put, dMeth, lstOf_rol, lstOf_put, seqOf_tup, seqOf_rol, seqOf_put, frz_tup, frz_rol, frz_int, frz_bl, frz_non, frz_str, frz_obj, startN, wipeD, List.map_cons, List.map_nil, List.length_cons, List.length_nil, Nat.zero_add, Nat.sub_self, Nat.reduceAdd, Nat.reduceSub, List.replicate_succ, List.replicate_zero, List.cons_append, List.nil_append, List.append_nil, List.getElem?_cons_zero, List.getElem?_cons_succ, List.set_cons_zero, List.set_cons_succ, Option.some.injEq, exists_eq_left', DEnds.xd, atI_0, atI_1, atI_2, atI_3, atI_4, atI_5, atI_6, atI_7, ixN_50, ixN_51, ixN_52, ixN_53, ixN_54, ixN_30, ixN_31, ixN_32, put_same, put_put, true_and, and_true, decide_true, decide_false, Bool.not_true, Bool.not_false, Bool.false_eq_true, if_true, if_false, decide_eq_true_eq, Bool.not_eq_true', decide_eq_false_iff_not, mem_one, ex_one, and_self]
        exact ⟨x, 256, rfl, (hl x hx).sub hs, hq⟩
      · rw [all_map]
        refine all_rol ?_
        rw [List.all_map, Function.id_comp]
        exact h
    · rw [decide_eq_false h1] at h
      rw [decide_eq_false (show ¬ (xs.length : Int) ≤ 300000 from h1)]
      exact h
  | _ => exact h
def sp_check_row (A : Ad) : SpD := fun ds S Q X => ∃ d, ds = [d] ∧ knownL A S d ∧ if isRow d = true then Q .non S else X (.ref A.NoRow) none S
theorem len_check_row (A : Ad) : ∀ ds S Q X, sp_check_row A ds S Q X → ds.length = 1 := by rintro _ _ _ _ ⟨_, rfl, _⟩; rfl
def r_check_row (A : Ad) : DS := (dIfS (dNotT (dTest (dCall (sp_is_row A) (dCons (dVar 0) dNil)))) (dRaise (.ref A.NoRow)) dNext)
theorem rd_check_row (A : Ad) : Rd (r_check_row A) 1 (sp_check_row A) := by
  rintro ds S Q X ⟨d, rfl, hk, h⟩
  unfold r_check_row
  simp only [dSeq, dAsg, dRet, dRetN, dDrop, dRaise, dBreak, dCont, dPar, dAug, dFor, dNext, dSetF, dAugF, dRaiseF, dIfS, dTest, dOp, dVar, dC, dCB, dCons, dNil, dCall, dAndV, dOrV, dNotV, dAndT, dOrT, dNotT, dIf, dTup, dLst, dLstV, dSl, dSlV, rdSlV, oSome, oNone, dNeg, gN, gT, gConsD, gNilD, gSubD, gFldD, dChain, dLc, dBM, isLst, iSeqD, iR1, iR2, iR3, dYes, rdAddV, rdMulV, rdSub, rdDiv, rdMod, rdPow, rdIAdd, rdCmp, rdIsN, isn_non, isn_bl, isn_int, isn_str, isn_ref, isn_tup, isn_rol, isn_obj, rdEqG, rdIx_tup, rdIx_rol, rdIx_put, rdSet, rdLen_tup, rdLen_rol, rdLen_str, rdLen_put, rdInt1, rdInt, rdInt2, rdAppend, rdExt, rdPopAt, rdMaxL, rdMinL, rdListV, rdIsB, isBlV, rdStrI, rdIntS, dFrz, dFld, insOf_put, dMeth, lstOf_rol, lstOf_put, seqOf_tup, seqOf_rol, seqOf_put, frz_tup, frz_rol, frz_int, frz_bl, frz_non, frz_str, frz_obj, startN, wipeD, List.map_cons, List.map_nil, List.length_cons, List.length_nil, Nat.zero_add, Nat.sub_self, Nat.reduceAdd, Nat.reduceSub, List.replicate_succ, List.replicate_zero, List.cons_append, List.nil_append, List.append_nil, List.getElem?_cons_zero, List.getElem?_cons_succ, List.set_cons_zero, List.set_cons_succ, Option.some.injEq, exists_eq_left', DEnds.xd, atI_0, atI_1, atI_2, atI_3, atI_4, atI_5, atI_6, atI_7, ixN_50, ixN_51, ixN_52, ixN_53, ixN_54, ixN_30, ixN_31, ixN_32, put_same, put_put, true_and, and_true, decide_true, decide_false, Bool.not_true, Bool.not_false, Bool.false_eq_true, if_true, if_false, decide_eq_true_eq, Bool.not_eq_true', decide_eq_false_iff_not, mem_one, ex_one, and_self]
  refine ⟨d, rfl, hk, ?_⟩
  cases e : isRow d with
  | true => rw [if_pos e] at h; exact h
  | false => rw [if_neg (by rw [e]; decide)] at h; exact h
end Lw

namespace Lw
open PySem PySem.Spec PyProof.Rows L2 VD
/-! ### figures -/
def figF : Nat → Int → List Int
  | 0, n => [n]
  | k + 1, n => if n < 128 then [n] else (n % 128 + 128) :: figF k (n / 128)
def figs (n : Int) : List Int := figF 9 n
/-- the first place under 128 -/
def fnd : Nat → List Int → Option Nat
  | 0, _ => none
  | _ + 1, [] => none
  | k + 1, b :: r => if b < 128 then some 0 else (fnd k r).map (· + 1)
def val : List Int → Int
  | [] => 0
  | b :: r => b % 128 + 128 * val r
def readO (row : List Int) (at_ : Nat) : Option (Int × Nat) := match fnd 10 (row.drop at_) with
  | none => none
  | some i => if (0 < i ∧ (row.drop at_)[i]? = some 0) ∨ 18446744073709551616 ≤ val ((row.drop at_).take (i + 1)) then none else some (val ((row.drop at_).take (i + 1)), at_ + i + 1)
def numD : Option (Int × Nat) → Dv
  | none => .non
  | some (v, b) => .tup [.int v, .int b]
def unfF (n : Int) : Int := if n % 2 = 0 then n / 2 else -(n + 1) / 2
def foldF (n : Int) : Int := if 0 ≤ n then 2 * n else -2 * n - 1
def inS (n : Int) : Prop := -4611686018427387904 ≤ n ∧ n ≤ 4611686018427387904
instance (n : Int) : Decidable (inS n) := by unfold inS; infer_instance
def readSO (row : List Int) (at_ : Nat) : Option (Int × Nat) := match readO row at_ with
  | some (v, b) => if inS (unfF v) then some (unfF v, b) else none
  | none => none
theorem pow7 (k : Nat) : (128 : Int) ^ (k + 1) = 128 * 128 ^ k := by rw [Int.pow_succ, Int.mul_comm]
theorem val_snoc : ∀ (xs : List Int) (b : Int), val (xs ++ [b]) = val xs + 128 ^ xs.length * (b % 128)
  | [], b => by simp [val]
  | x :: xs, b => by
    show x % 128 + 128 * val (xs ++ [b]) = x % 128 + 128 * val xs + 128 ^ (xs.length + 1) * (b % 128)
    rw [val_snoc xs b, pow7, Int.mul_add, Int.mul_assoc, Int.add_assoc]
/-- the search goes on from a place whose ahead are all great -/
theorem fnd_on : ∀ (i k : Nat) (l : List Int), (∀ j, j < i → ∃ b, l[j]? = some b ∧ ¬ b < 128) → fnd (k + i) l = (fnd k (l.drop i)).map (· + i)
  | 0, k, l, _ => by simp
  | i + 1, k, l, h => by
    obtain ⟨b, hb, hb2⟩ := h 0 (by omega)
    cases l with
    | nil => simp at hb
    | cons c r =>
      simp at hb
      subst hb
      show fnd (k + i + 1) (c :: r) = _
      rw [fnd, if_neg hb2, fnd_on i k r (fun j hj => by have := h (j + 1) (by omega); simpa using this)]
      rw [List.drop_succ_cons, Option.map_map]
      rfl
theorem val_in : ∀ (xs : List Int), 0 ≤ val xs ∧ val xs < 128 ^ xs.length
  | [] => by decide
  | x :: xs => by
    have h := val_in xs
    show 0 ≤ x % 128 + 128 * val xs ∧ x % 128 + 128 * val xs < 128 ^ (xs.length + 1)
    rw [pow7]
    omega
theorem figF_len : ∀ (k : Nat) (n : Int), 1 ≤ (figF k n).length ∧ (figF k n).length ≤ k + 1
  | 0, n => by simp [figF]
  | k + 1, n => by
    unfold figF
    split
    · simp
    · have := figF_len k (n / 128)
      simp
      omega
theorem figF_ok : ∀ (k : Nat) (n : Int), 0 ≤ n → n < 128 ^ (k + 1) → ∀ b ∈ figF k n, 0 ≤ b ∧ b < 256
  | 0, n, h0, h1 => by
    intro b hb
    simp [figF] at hb h1
    omega
  | k + 1, n, h0, h1 => by
    intro b hb
    unfold figF at hb
    split at hb
    · simp at hb; omega
    · rcases List.mem_cons.mp hb with rfl | hb
      · omega
      · exact figF_ok k (n / 128) (by omega) (by rw [pow7] at h1; omega) b hb
theorem figF_val : ∀ (k : Nat) (n : Int), 0 ≤ n → n < 128 ^ (k + 1) → val (figF k n) = n
  | 0, n, h0, h1 => by
    simp [figF, val] at h1 ⊢
    omega
  | k + 1, n, h0, h1 => by
    unfold figF
    split
    · simp [val]; omega
    · show (n % 128 + 128) % 128 + 128 * val (figF k (n / 128)) = n
      rw [figF_val k (n / 128) (by omega) (by rw [pow7] at h1; omega)]
      omega
theorem figF_fnd : ∀ (k m : Nat) (n : Int) (t : List Int), 0 ≤ n → n < 128 ^ (k + 1) → k < m → fnd m (figF k n ++ t) = some ((figF k n).length - 1)
  | 0, m + 1, n, t, h0, h1, _ => by
    simp [figF] at h1 ⊢
    rw [fnd, if_pos h1]
  | k + 1, m + 1, n, t, h0, h1, hm => by
    unfold figF
    split
    · rename_i h
      show fnd (m + 1) (n :: t) = _
      rw [fnd, if_pos h]
      rfl
    · show fnd (m + 1) ((n % 128 + 128) :: (figF k (n / 128) ++ t)) = _
      rw [fnd, if_neg (by omega), figF_fnd k m (n / 128) t (by omega) (by rw [pow7] at h1; omega) (by omega)]
      have := figF_len k (n / 128)
      simp
      omega
theorem figF_last : ∀ (k : Nat) (n : Int), 0 < n → n < 128 ^ (k + 1) → (figF k n)[(figF k n).length - 1]? ≠ some 0
  | 0, n, h0, h1 => by
    simp [figF]
    omega
  | k + 1, n, h0, h1 => by
    unfold figF
    split
    · simp; omega
    · have h2 := figF_last k (n / 128) (by omega) (by rw [pow7] at h1; omega)
      have h3 := figF_len k (n / 128)
      intro e
      apply h2
      rw [← e]
      rw [List.length_cons, show (figF k (n / 128)).length + 1 - 1 = ((figF k (n / 128)).length - 1) + 1 by omega, List.getElem?_cons_succ]
theorem readO_figs (pre tail : List Int) (n : Int) (h0 : 0 ≤ n) (h1 : n < 18446744073709551616) : readO (pre ++ figs n ++ tail) pre.length = some (n, pre.length + (figs n).length) := by
  have hb : n < 128 ^ (9 + 1) := by
    have : (128 : Int) ^ (9 + 1) = 1180591620717411303424 := by decide
    omega
  have hl := figF_len 9 n
  unfold readO
  rw [List.append_assoc, List.drop_left]
  unfold figs
  rw [figF_fnd 9 10 n tail h0 hb (by decide)]
  dsimp only
  rw [show (figF 9 n).length - 1 + 1 = (figF 9 n).length by omega, List.take_left, figF_val 9 n h0 hb]
  rw [if_neg]
  · rw [show pre.length + ((figF 9 n).length - 1) + 1 = pre.length + (figF 9 n).length by omega]
  · rintro (⟨h2, h3⟩ | h2)
    · rw [List.getElem?_append_left (by omega)] at h3
      by_cases hn : n = 0
      · subst hn
        simp [figF] at h2
      · exact figF_last 9 n (by omega) hb h3
    · omega
theorem fnd_lt : ∀ (k : Nat) (l : List Int) (i : Nat), fnd k l = some i → i < l.length
  | 0, _, _, h => by cases h
  | k + 1, [], _, h => by cases h
  | k + 1, b :: r, i, h => by
    unfold fnd at h
    split at h
    · cases h; simp
    · rw [Option.map_eq_some_iff] at h
      obtain ⟨j, h1, rfl⟩ := h
      have := fnd_lt k r j h1
      simp; omega
theorem readO_ok {xs : List Int} {i : Nat} {v : Int} {b : Nat} (h : readO xs i = some (v, b)) : 0 ≤ v ∧ v < 18446744073709551616 ∧ i < b ∧ b ≤ xs.length := by
  unfold readO at h
  split at h
  · cases h
  · rename_i j hj
    split at h
    · cases h
    · rename_i hn
      have h2 := fnd_lt _ _ _ hj
      rw [List.length_drop] at h2
      cases h
      have h3 := (val_in ((xs.drop i).take (j + 1))).1
      refine ⟨h3, ?_, by omega, by omega⟩
      have := fun z => hn (.inr z)
      omega
theorem unf_fold {n : Int} : unfF (foldF n) = n := by
  unfold unfF foldF
  split <;> split <;> omega
theorem fold_unf {n : Int} (h : 0 ≤ n) : foldF (unfF n) = n := by
  unfold unfF foldF
  split <;> split <;> omega
theorem unf_in {n : Int} (h : 0 ≤ n) : inS (unfF n) ↔ n ≤ 9223372036854775808 := by
  unfold inS unfF
  split <;> omega

def rowOk (ns : List Int) : Prop := ns.length ≤ 300000 ∧ ∀ n ∈ ns, 0 ≤ n ∧ n < 256
theorem isRow_ints {ns : List Int} (h : rowOk ns) : isRow (.tup (List.map Dv.int ns)) = true := by
  unfold isRow allT
  dsimp only
  rw [Bool.and_eq_true, List.length_map, List.all_map]
  refine ⟨by have := h.1; simp; omega, List.all_eq_true.mpr fun n hn => ?_⟩
  have := h.2 n hn
  simp [within]
  omega
theorem knL_ints {A : Ad} {S : Sto} {ns : List Int} : knownL A S (.tup (List.map Dv.int ns)) := ⟨kn_tup, fun x hx => by
  obtain ⟨n, _, rfl⟩ := List.mem_map.mp hx
  exact kn_int⟩
theorem rangeL_mem {lo : Int} {n i : Nat} {x : Dv} (h : (rangeL lo n 1)[i]? = some x) : i < n ∧ x = .int (lo + i) := by
  obtain ⟨h1, h2⟩ := rangeL_get h
  rw [Int.mul_one] at h2
  exact ⟨h1, h2⟩
theorem map_get {α β : Type} {f : α → β} {xs : List α} {i : Nat} {y : β} (h : (xs.map f)[i]? = some y) : ∃ x, xs[i]? = some x ∧ y = f x := by
  rw [List.getElem?_map, Option.map_eq_some_iff] at h
  obtain ⟨x, h1, h2⟩ := h
  exact ⟨x, h1, h2.symm⟩
def sp_figures_of (A : Ad) : SpD := fun ds S Q _ => ∃ n, ds = [.int n] ∧ 0 ≤ n ∧ n < 18446744073709551616 ∧ Q (.tup (List.map Dv.int (figs n))) S
theorem len_figures_of (A : Ad) : ∀ ds S Q X, sp_figures_of A ds S Q X → ds.length = 1 := by rintro _ _ _ _ ⟨_, rfl, _⟩; rfl
def r_figures_of (A : Ad) : DS := (dSeq (dAsg (dLst dNil) (gN 1))
    (dSeq (dAsg (dVar 0) (gN 2))
    (dSeq (dWhile (dTest (dOp rdGe (dVar 2) (dC (.int 128)))) (dSeq (dDrop (dBM rdAppend (dVar 1) (dCons (dOp rdAddV (dOp rdMod (dVar 2) (dC (.int 128))) (dC (.int 128))) dNil)))
    (dAsg (dOp rdDiv (dVar 2) (dC (.int 128))) (gN 2))))
    (dRet (dOp rdAddV (dCB rdTuple (dCons (dVar 1) dNil)) (dTup (dCons (dVar 2) dNil)))))))
theorem pow_top : (128 : Int) ^ (9 + 1) = 1180591620717411303424 := by decide
theorem rd_figures_of (A : Ad) : Rd (r_figures_of A) 3 (sp_figures_of A) := by
  rintro ds S Q X ⟨n, rfl, h0, h1, h⟩
  unfold r_figures_of
  simp only [dSeq, dAsg, dRet, dRetN, dDrop, dRaise, dBreak, dCont, dPar, dAug, dFor, dNext, dSetF, dAugF, dRaiseF, dIfS, dTest, dOp, dVar, dC, dCB, dCons, dNil, dCall, dAndV, dOrV, dNotV, dAndT, dOrT, dNotT, dIf, dTup, dLst, dLstV, dSl, dSlV, rdSlV, oSome, oNone, dNeg, gN, gT, gConsD, gNilD, gSubD, gFldD, dChain, dLc, dBM, isLst, iSeqD, iR1, iR2, iR3, dYes, rdAddV, rdMulV, rdSub, rdDiv, rdMod, rdPow, rdIAdd, rdCmp, rdIsN, isn_non, isn_bl, isn_int, isn_str, isn_ref, isn_tup, isn_rol, isn_obj, rdEqG, rdIx_tup, rdIx_rol, rdIx_put, rdSet, rdLen_tup, rdLen_rol, rdLen_str, rdLen_put, rdInt1, rdInt, rdInt2, rdAppend, rdExt, rdPopAt, rdMaxL, rdMinL, rdListV, rdIsB, isBlV, rdStrI, rdIntS, dFrz, dFld, insOf_put, dMeth, lstOf_rol, lstOf_put, seqOf_tup, seqOf_rol, seqOf_put, frz_tup, frz_rol, frz_int, frz_bl, frz_non, frz_str, frz_obj, startN, wipeD, List.map_cons, List.map_nil, List.length_cons, List.length_nil, Nat.zero_add, Nat.sub_self, Nat.reduceAdd, Nat.reduceSub, List.replicate_succ, List.replicate_zero, List.cons_append, List.nil_append, List.append_nil, List.getElem?_cons_zero, List.getElem?_cons_succ, List.set_cons_zero, List.set_cons_succ, Option.some.injEq, exists_eq_left', DEnds.xd, atI_0, atI_1, atI_2, atI_3, atI_4, atI_5, atI_6, atI_7, ixN_50, ixN_51, ixN_52, ixN_53, ixN_54, ixN_30, ixN_31, ixN_32, put_same, put_put, true_and, and_true, decide_true, decide_false, Bool.not_true, Bool.not_false, Bool.false_eq_true, if_true, if_false, decide_eq_true_eq, Bool.not_eq_true', decide_eq_false_iff_not, mem_one, ex_one, and_self]
  refine ⟨by rw [sizeLine_eq]; decide, fun p hp => ?_⟩
  unfold dWhile
  refine ⟨fun m ρ T => ∃ (pre : List Int) (l : Int), T = put S p (.lst (List.map Dv.int pre)) ∧ 0 ≤ l ∧ l < 128 ^ (m + 1) ∧ pre.length + m = 9 ∧ pre ++ figF m l = figs n ∧ ρ = [some (.int n), some (.ref p), some (.int l)], ⟨9, [], n, rfl, h0, by rw [pow_top]; omega, rfl, rfl, rfl⟩, ?_⟩
  rintro m ρ T ⟨pre, l, rfl, hl0, hl1, hpm, hpre, rfl⟩
  simp only [dSeq, dAsg, dRet, dRetN, dDrop, dRaise, dBreak, dCont, dPar, dAug, dFor, dNext, dSetF, dAugF, dRaiseF, dIfS, dTest, dOp, dVar, dC, dCB, dCons, dNil, dCall, dAndV, dOrV, dNotV, dAndT, dOrT, dNotT, dIf, dTup, dLst, dLstV, dSl, dSlV, rdSlV, oSome, oNone, dNeg, gN, gT, gConsD, gNilD, gSubD, gFldD, dChain, dLc, dBM, isLst, iSeqD, iR1, iR2, iR3, dYes, rdAddV, rdMulV, rdSub, rdDiv, rdMod, rdPow, rdIAdd, rdCmp, rdIsN, isn_non, isn_bl, isn_int, isn_str, isn_ref, isn_tup, isn_rol, isn_obj, rdEqG, rdIx_tup, rdIx_rol, rdIx_put, rdSet, rdLen_tup, rdLen_rol, rdLen_str, rdLen_put, rdInt1, rdInt, rdInt2, rdAppend, rdExt, rdPopAt, rdMaxL, rdMinL, rdListV, rdIsB, isBlV, rdStrI, rdIntS, dFrz, dFld, insOf_put, dMeth, lstOf_rol, lstOf_put, seqOf_tup, seqOf_rol, seqOf_put, frz_tup, frz_rol, frz_int, frz_bl, frz_non, frz_str, frz_obj, startN, wipeD, List.map_cons, List.map_nil, List.length_cons, List.length_nil, Nat.zero_add, Nat.sub_self, Nat.reduceAdd, Nat.reduceSub, List.replicate_succ, List.replicate_zero, List.cons_append, List.nil_append, List.append_nil, List.getElem?_cons_zero, List.getElem?_cons_succ, List.set_cons_zero, List.set_cons_succ, Option.some.injEq, exists_eq_left', DEnds.xd, atI_0, atI_1, atI_2, atI_3, atI_4, atI_5, atI_6, atI_7, ixN_50, ixN_51, ixN_52, ixN_53, ixN_54, ixN_30, ixN_31, ixN_32, put_same, put_put, true_and, and_true, decide_true, decide_false, Bool.not_true, Bool.not_false, Bool.false_eq_true, if_true, if_false, decide_eq_true_eq, Bool.not_eq_true', decide_eq_false_iff_not, mem_one, ex_one, and_self]
  by_cases hl : 128 ≤ l
  · rw [if_pos hl]
    refine ⟨by decide, by rw [sizeLine_eq, List.length_map]; omega, divp 64 (by decide) (by decide), ?_⟩
    cases m with
    | zero => simp at hl1; omega
    | succ m =>
      refine ⟨m, by omega, pre ++ [l % 128 + 128], l / 128, by rw [List.map_append]; rfl, by omega, by rw [pow7] at hl1; omega, by simp; omega, ?_, rfl⟩
      rw [← hpre]
      conv => rhs; unfold figF
      rw [if_neg (by omega), List.append_assoc]
      rfl
  · rw [if_neg hl]
    refine tup_new hp ⟨by rw [sizeLine_eq]; decide, by rw [sizeLine_eq, List.length_map]; simp; omega, ?_⟩
    have e : figF m l = [l] := by
      cases m with
      | zero => rfl
      | succ m => unfold figF; rw [if_pos (by omega)]
    rw [e] at hpre
    rw [show [Dv.int l] = List.map Dv.int [l] from rfl, ← List.map_append, hpre]
    exact h
def sp_number_at (A : Ad) : SpD := fun ds S Q _ => ∃ (xs : List Int) (i : Nat), ds = [.tup (List.map Dv.int xs), .int i] ∧ rowOk xs ∧ i ≤ xs.length ∧ Q (numD (readO xs i)) S
theorem len_number_at (A : Ad) : ∀ ds S Q X, sp_number_at A ds S Q X → ds.length = 2 := by rintro _ _ _ _ ⟨_, _, rfl, _⟩; rfl
def r_number_at (A : Ad) : DS := (dSeq (dAsg (dC (.int 0)) (gN 2))
    (dSeq (dAsg (dC (.int 1)) (gN 3))
    (dSeq (dFor (iR2 (dCons (dVar 1) (dCons (dCB rdMinL (dCons (dCB rdLen (dCons (dVar 0) dNil)) (dCons (dOp rdAddV (dVar 1) (dC (.int 10))) dNil))) dNil))) (gN 4) (dSeq (dAug 2 rdIAdd (dOp rdMulV (dOp rdMod (dOp rdIx (dVar 0) (dVar 4)) (dC (.int 128))) (dVar 3)))
    (dSeq (dAsg (dOp rdMulV (dVar 3) (dC (.int 128))) (gN 3))
    (dIfS (dTest (dOp rdLt (dOp rdIx (dVar 0) (dVar 4)) (dC (.int 128)))) (dSeq (dAsg (dAndV (dOp rdEq (dOp rdIx (dVar 0) (dVar 4)) (dC (.int 0))) (dOp rdGt (dVar 4) (dVar 1))) (gN 5))
    (dRet (dIf (dOrT (dTest (dVar 5)) (dTest (dOp rdGe (dVar 2) (dC (.int 18446744073709551616))))) (dC .non) (dTup (dCons (dVar 2) (dCons (dOp rdAddV (dVar 4) (dC (.int 1))) dNil)))))) dNext))))
    (dRet (dC .non)))))
theorem rd_number_at (A : Ad) : Rd (r_number_at A) 6 (sp_number_at A) := by
  rintro ds S Q X ⟨xs, i0, rfl, hr, hi, h⟩
  unfold r_number_at
  unfold dFor
  simp only [dSeq, dAsg, dRet, dRetN, dDrop, dRaise, dBreak, dCont, dPar, dAug, dFor, dNext, dSetF, dAugF, dRaiseF, dIfS, dTest, dOp, dVar, dC, dCB, dCons, dNil, dCall, dAndV, dOrV, dNotV, dAndT, dOrT, dNotT, dIf, dTup, dLst, dLstV, dSl, dSlV, rdSlV, oSome, oNone, dNeg, gN, gT, gConsD, gNilD, gSubD, gFldD, dChain, dLc, dBM, isLst, iSeqD, iR1, iR2, iR3, dYes, rdAddV, rdMulV, rdSub, rdDiv, rdMod, rdPow, rdIAdd, rdCmp, rdIsN, isn_non, isn_bl, isn_int, isn_str, isn_ref, isn_tup, isn_rol, isn_obj, rdEqG, rdIx_tup, rdIx_rol, rdIx_put, rdSet, rdLen_tup, rdLen_rol, rdLen_str, rdLen_put, rdInt1, rdInt, rdInt2, rdAppend, rdExt, rdPopAt, rdMaxL, rdMinL, rdListV, rdIsB, isBlV, rdStrI, rdIntS, dFrz, dFld, insOf_put, dMeth, lstOf_rol, lstOf_put, seqOf_tup, seqOf_rol, seqOf_put, frz_tup, frz_rol, frz_int, frz_bl, frz_non, frz_str, frz_obj, startN, wipeD, List.map_cons, List.map_nil, List.length_cons, List.length_nil, Nat.zero_add, Nat.sub_self, Nat.reduceAdd, Nat.reduceSub, List.replicate_succ, List.replicate_zero, List.cons_append, List.nil_append, List.append_nil, List.getElem?_cons_zero, List.getElem?_cons_succ, List.set_cons_zero, List.set_cons_succ, Option.some.injEq, exists_eq_left', DEnds.xd, atI_0, atI_1, atI_2, atI_3, atI_4, atI_5, atI_6, atI_7, ixN_50, ixN_51, ixN_52, ixN_53, ixN_54, ixN_30, ixN_31, ixN_32, put_same, put_put, true_and, and_true, decide_true, decide_false, Bool.not_true, Bool.not_false, Bool.false_eq_true, if_true, if_false, decide_eq_true_eq, Bool.not_eq_true', decide_eq_false_iff_not, mem_one, ex_one, and_self]
  rw [List.length_map]
  have hr1 := hr.1
  generalize hm : (if (i0 : Int) + 10 < (xs.length : Int) then (i0 : Int) + 10 else (xs.length : Int)) = m
  have hm1 : (i0 : Int) ≤ m ∧ m ≤ xs.length ∧ m ≤ i0 + 10 ∧ (m = xs.length ∨ m = i0 + 10) := by
    rw [← hm]
    split <;> omega
  have hget : ∀ j : Nat, (xs.drop i0)[j]? = xs[i0 + j]? := fun j => by rw [List.getElem?_drop]
  refine for_go (fun j ρ T => T = S ∧ (∀ k, k < j → ∃ b, (xs.drop i0)[k]? = some b ∧ ¬ b < 128) ∧ ∃ y5 y6, ρ = [some (.tup (List.map Dv.int xs)), some (.int i0), some (.int (val ((xs.drop i0).take j))), some (.int (128 ^ j)), y5, y6]) ⟨rfl, fun k hk => by omega, _, _, rfl⟩ (fun _ _ _ _ _ => trivial) (fun j x ρ T hx hw => ?_) fun ρ T hw => ?_
  · obtain ⟨rfl, hb, y5, y6, rfl⟩ := hw
    obtain ⟨hj, rfl⟩ := rangeL_mem hx
    have hlt : i0 + j < xs.length := by omega
    have ex : xs[i0 + j]? = some xs[i0 + j] := List.getElem?_eq_getElem hlt
    have eb := hr.2 _ (List.getElem_mem hlt)
    have ea : atI (List.map Dv.int xs) ((i0 : Int) + (j : Int)) = some (.int xs[i0 + j]) := by
      rw [atI_nn (by omega), show ((i0 : Int) + (j : Int)).toNat = i0 + j by omega, List.getElem?_map, ex]
      rfl
    have ed : (xs.drop i0)[j]? = some xs[i0 + j] := by rw [hget, ex]
    have elen : ((xs.drop i0).take j).length = j := by rw [List.length_take, List.length_drop]; omega
    have ev : val ((xs.drop i0).take j) + xs[i0 + j] % 128 * 128 ^ j = val ((xs.drop i0).take (j + 1)) := by
      rw [List.take_add_one, ed, Option.toList_some, val_snoc, elen, Int.mul_comm]
    simp only [dSeq, dAsg, dRet, dRetN, dDrop, dRaise, dBreak, dCont, dPar, dAug, dFor, dNext, dSetF, dAugF, dRaiseF, dIfS, dTest, dOp, dVar, dC, dCB, dCons, dNil, dCall, dAndV, dOrV, dNotV, dAndT, dOrT, dNotT, dIf, dTup, dLst, dLstV, dSl, dSlV, rdSlV, oSome, oNone, dNeg, gN, gT, gConsD, gNilD, gSubD, gFldD, dChain, dLc, dBM, isLst, iSeqD, iR1, iR2, iR3, dYes, rdAddV, rdMulV, rdSub, rdDiv, rdMod, rdPow, rdIAdd, rdCmp, rdIsN, isn_non, isn_bl, isn_int, isn_str, isn_ref, isn_tup, isn_rol, isn_obj, rdEqG, rdIx_tup, rdIx_rol, rdIx_put, rdSet, rdLen_tup, rdLen_rol, rdLen_str, rdLen_put, rdInt1, rdInt, rdInt2, rdAppend, rdExt, rdPopAt, rdMaxL, rdMinL, rdListV, rdIsB, isBlV, rdStrI, rdIntS, dFrz, dFld, insOf_put, dMeth, lstOf_rol, lstOf_put, seqOf_tup, seqOf_rol, seqOf_put, frz_tup, frz_rol, frz_int, frz_bl, frz_non, frz_str, frz_obj, startN, wipeD, List.map_cons, List.map_nil, List.length_cons, List.length_nil, Nat.zero_add, Nat.sub_self, Nat.reduceAdd, Nat.reduceSub, List.replicate_succ, List.replicate_zero, List.cons_append, List.nil_append, List.append_nil, List.getElem?_cons_zero, List.getElem?_cons_succ, List.set_cons_zero, List.set_cons_succ, Option.some.injEq, exists_eq_left', DEnds.xd, atI_0, atI_1, atI_2, atI_3, atI_4, atI_5, atI_6, atI_7, ixN_50, ixN_51, ixN_52, ixN_53, ixN_54, ixN_30, ixN_31, ixN_32, put_same, put_put, true_and, and_true, decide_true, decide_false, Bool.not_true, Bool.not_false, Bool.false_eq_true, if_true, if_false, decide_eq_true_eq, Bool.not_eq_true', decide_eq_false_iff_not, mem_one, ex_one, and_self]
    refine ⟨_, ea, ?_⟩
    simp only [dSeq, dAsg, dRet, dRetN, dDrop, dRaise, dBreak, dCont, dPar, dAug, dFor, dNext, dSetF, dAugF, dRaiseF, dIfS, dTest, dOp, dVar, dC, dCB, dCons, dNil, dCall, dAndV, dOrV, dNotV, dAndT, dOrT, dNotT, dIf, dTup, dLst, dLstV, dSl, dSlV, rdSlV, oSome, oNone, dNeg, gN, gT, gConsD, gNilD, gSubD, gFldD, dChain, dLc, dBM, isLst, iSeqD, iR1, iR2, iR3, dYes, rdAddV, rdMulV, rdSub, rdDiv, rdMod, rdPow, rdIAdd, rdCmp, rdIsN, isn_non, isn_bl, isn_int, isn_str, isn_ref, isn_tup, isn_rol, isn_obj, rdEqG, rdIx_tup, rdIx_rol, rdIx_put, rdSet, rdLen_tup, rdLen_rol, rdLen_str, rdLen_put, rdInt1, rdInt, rdInt2, rdAppend, rdExt, rdPopAt, rdMaxL, rdMinL, rdListV, rdIsB, isBlV, rdStrI, rdIntS, dFrz, dFld, insOf_put, dMeth, lstOf_rol, lstOf_put, seqOf_tup, seqOf_rol, seqOf_put, frz_tup, frz_rol, frz_int, frz_bl, frz_non, frz_str, frz_obj, startN, wipeD, List.map_cons, List.map_nil, List.length_cons, List.length_nil, Nat.zero_add, Nat.sub_self, Nat.reduceAdd, Nat.reduceSub, List.replicate_succ, List.replicate_zero, List.cons_append, List.nil_append, List.append_nil, List.getElem?_cons_zero, List.getElem?_cons_succ, List.set_cons_zero, List.set_cons_succ, Option.some.injEq, exists_eq_left', DEnds.xd, atI_0, atI_1, atI_2, atI_3, atI_4, atI_5, atI_6, atI_7, ixN_50, ixN_51, ixN_52, ixN_53, ixN_54, ixN_30, ixN_31, ixN_32, put_same, put_put, true_and, and_true, decide_true, decide_false, Bool.not_true, Bool.not_false, Bool.false_eq_true, if_true, if_false, decide_eq_true_eq, Bool.not_eq_true', decide_eq_false_iff_not, mem_one, ex_one, and_self]
    rw [ev]
    refine ⟨by decide, mulok_l (by omega) (by omega), mulok_r (by decide) (by decide), _, ea, ?_⟩
    simp only [dSeq, dAsg, dRet, dRetN, dDrop, dRaise, dBreak, dCont, dPar, dAug, dFor, dNext, dSetF, dAugF, dRaiseF, dIfS, dTest, dOp, dVar, dC, dCB, dCons, dNil, dCall, dAndV, dOrV, dNotV, dAndT, dOrT, dNotT, dIf, dTup, dLst, dLstV, dSl, dSlV, rdSlV, oSome, oNone, dNeg, gN, gT, gConsD, gNilD, gSubD, gFldD, dChain, dLc, dBM, isLst, iSeqD, iR1, iR2, iR3, dYes, rdAddV, rdMulV, rdSub, rdDiv, rdMod, rdPow, rdIAdd, rdCmp, rdIsN, isn_non, isn_bl, isn_int, isn_str, isn_ref, isn_tup, isn_rol, isn_obj, rdEqG, rdIx_tup, rdIx_rol, rdIx_put, rdSet, rdLen_tup, rdLen_rol, rdLen_str, rdLen_put, rdInt1, rdInt, rdInt2, rdAppend, rdExt, rdPopAt, rdMaxL, rdMinL, rdListV, rdIsB, isBlV, rdStrI, rdIntS, dFrz, dFld, insOf_put, dMeth, lstOf_rol, lstOf_put, seqOf_tup, seqOf_rol, seqOf_put, frz_tup, frz_rol, frz_int, frz_bl, frz_non, frz_str, frz_obj, startN, wipeD, List.map_cons, List.map_nil, List.length_cons, List.length_nil, Nat.zero_add, Nat.sub_self, Nat.reduceAdd, Nat.reduceSub, List.replicate_succ, List.replicate_zero, List.cons_append, List.nil_append, List.append_nil, List.getElem?_cons_zero, List.getElem?_cons_succ, List.set_cons_zero, List.set_cons_succ, Option.some.injEq, exists_eq_left', DEnds.xd, atI_0, atI_1, atI_2, atI_3, atI_4, atI_5, atI_6, atI_7, ixN_50, ixN_51, ixN_52, ixN_53, ixN_54, ixN_30, ixN_31, ixN_32, put_same, put_put, true_and, and_true, decide_true, decide_false, Bool.not_true, Bool.not_false, Bool.false_eq_true, if_true, if_false, decide_eq_true_eq, Bool.not_eq_true', decide_eq_false_iff_not, mem_one, ex_one, and_self]
    by_cases h1 : xs[i0 + j] < 128
    · rw [if_pos h1]
      refine ⟨_, ea, ?_⟩
      simp only [dSeq, dAsg, dRet, dRetN, dDrop, dRaise, dBreak, dCont, dPar, dAug, dFor, dNext, dSetF, dAugF, dRaiseF, dIfS, dTest, dOp, dVar, dC, dCB, dCons, dNil, dCall, dAndV, dOrV, dNotV, dAndT, dOrT, dNotT, dIf, dTup, dLst, dLstV, dSl, dSlV, rdSlV, oSome, oNone, dNeg, gN, gT, gConsD, gNilD, gSubD, gFldD, dChain, dLc, dBM, isLst, iSeqD, iR1, iR2, iR3, dYes, rdAddV, rdMulV, rdSub, rdDiv, rdMod, rdPow, rdIAdd, rdCmp, rdIsN, isn_non, isn_bl, isn_int, isn_str, isn_ref, isn_tup, isn_rol, isn_obj, rdEqG, rdIx_tup, rdIx_rol, rdIx_put, rdSet, rdLen_tup, rdLen_rol, rdLen_str, rdLen_put, rdInt1, rdInt, rdInt2, rdAppend, rdExt, rdPopAt, rdMaxL, rdMinL, rdListV, rdIsB, isBlV, rdStrI, rdIntS, dFrz, dFld, insOf_put, dMeth, lstOf_rol, lstOf_put, seqOf_tup, seqOf_rol, seqOf_put, frz_tup, frz_rol, frz_int, frz_bl, frz_non, frz_str, frz_obj, startN, wipeD, List.map_cons, List.map_nil, List.length_cons, List.length_nil, Nat.zero_add, Nat.sub_self, Nat.reduceAdd, Nat.reduceSub, List.replicate_succ, List.replicate_zero, List.cons_append, List.nil_append, List.append_nil, List.getElem?_cons_zero, List.getElem?_cons_succ, List.set_cons_zero, List.set_cons_succ, Option.some.injEq, exists_eq_left', DEnds.xd, atI_0, atI_1, atI_2, atI_3, atI_4, atI_5, atI_6, atI_7, ixN_50, ixN_51, ixN_52, ixN_53, ixN_54, ixN_30, ixN_31, ixN_32, put_same, put_put, true_and, and_true, decide_true, decide_false, Bool.not_true, Bool.not_false, Bool.false_eq_true, if_true, if_false, decide_eq_true_eq, Bool.not_eq_true', decide_eq_false_iff_not, mem_one, ex_one, and_self]
      have ef : fnd 10 (xs.drop i0) = some j := by
        have e1 := fnd_on j (10 - j) (xs.drop i0) hb
        rw [show 10 - j + j = 10 by omega] at e1
        rw [e1, List.drop_eq_getElem?_toList_append, ed]
        obtain ⟨k, hk⟩ : ∃ k, 10 - j = k + 1 := ⟨9 - j, by omega⟩
        rw [hk]
        show (fnd (k + 1) (xs[i0 + j] :: _)).map (· + j) = some j
        rw [fnd, if_pos h1]
        simp
      have hh : readO xs i0 = if (0 < j ∧ xs[i0 + j] = 0) ∨ 18446744073709551616 ≤ val ((xs.drop i0).take (j + 1)) then none else some (val ((xs.drop i0).take (j + 1)), i0 + j + 1) := by
        unfold readO
        rw [ef]
        dsimp only
        rw [ed]
        simp only [Option.some.injEq]
      rw [hh] at h
      have ec : ((i0 + j + 1 : Nat) : Int) = (i0 : Int) + j + 1 := by omega
      have fin : ∀ c : Prop, [Decidable c] → (c ↔ ((0 < j ∧ xs[i0 + j] = 0) ∨ 18446744073709551616 ≤ val ((xs.drop i0).take (j + 1)))) → if c then Q .non T else 2 ≤ sizeLine ∧ Q (.tup [.int (val ((xs.drop i0).take (j + 1))), .int ((i0 : Int) + j + 1)]) T := by
        intro c _ hc
        by_cases h3 : c
        · rw [if_pos h3]
          rw [if_pos (hc.mp h3)] at h
          exact h
        · rw [if_neg h3]
          rw [if_neg fun z => h3 (hc.mpr z)] at h
          rw [← ec]
          exact ⟨sl2, h⟩
      by_cases h4 : xs[i0 + j] = 0
      · rw [decide_eq_true h4]
        dsimp only
        by_cases h5 : 0 < j
        · rw [if_pos (by omega)]
          exact fin True ⟨fun _ => .inl ⟨h5, h4⟩, fun _ => trivial⟩
        · rw [if_neg (by omega)]
          exact fin _ ⟨.inr, fun z => z.elim (fun y => (h5 y.1).elim) id⟩
      · rw [decide_eq_false h4]
        dsimp only
        exact fin _ ⟨.inr, fun z => z.elim (fun y => (h4 y.2).elim) id⟩
    · rw [if_neg h1]
      rw [← Int.pow_succ]
      refine ⟨fun k hk => ?_, _, _, rfl⟩
      by_cases e : k = j
      · subst e
        exact ⟨_, ed, h1⟩
      · exact hb k (by omega)
  · obtain ⟨rfl, hb, y5, y6, rfl⟩ := hw
    rw [rangeL_len] at hb
    simp only [dSeq, dAsg, dRet, dRetN, dDrop, dRaise, dBreak, dCont, dPar, dAug, dFor, dNext, dSetF, dAugF, dRaiseF, dIfS, dTest, dOp, dVar, dC, dCB, dCons, dNil, dCall, dAndV, dOrV, dNotV, dAndT, dOrT, dNotT, dIf, dTup, dLst, dLstV, dSl, dSlV, rdSlV, oSome, oNone, dNeg, gN, gT, gConsD, gNilD, gSubD, gFldD, dChain, dLc, dBM, isLst, iSeqD, iR1, iR2, iR3, dYes, rdAddV, rdMulV, rdSub, rdDiv, rdMod, rdPow, rdIAdd, rdCmp, rdIsN, isn_non, isn_bl, isn_int, isn_str, isn_ref, isn_tup, isn_rol, isn_obj, rdEqG, rdIx_tup, rdIx_rol, rdIx_put, rdSet, rdLen_tup, rdLen_rol, rdLen_str, rdLen_put, rdInt1, rdInt, rdInt2, rdAppend, rdExt, rdPopAt, rdMaxL, rdMinL, rdListV, rdIsB, isBlV, rdStrI, rdIntS, dFrz, dFld, insOf_put, dMeth, lstOf_rol, lstOf_put, seqOf_tup, seqOf_rol, seqOf_put, frz_tup, frz_rol, frz_int, frz_bl, frz_non, frz_str, frz_obj, startN, wipeD, List.map_cons, List.map_nil, List.length_cons, List.length_nil, Nat.zero_add, Nat.sub_self, Nat.reduceAdd, Nat.reduceSub, List.replicate_succ, List.replicate_zero, List.cons_append, List.nil_append, List.append_nil, List.getElem?_cons_zero, List.getElem?_cons_succ, List.set_cons_zero, List.set_cons_succ, Option.some.injEq, exists_eq_left', DEnds.xd, atI_0, atI_1, atI_2, atI_3, atI_4, atI_5, atI_6, atI_7, ixN_50, ixN_51, ixN_52, ixN_53, ixN_54, ixN_30, ixN_31, ixN_32, put_same, put_put, true_and, and_true, decide_true, decide_false, Bool.not_true, Bool.not_false, Bool.false_eq_true, if_true, if_false, decide_eq_true_eq, Bool.not_eq_true', decide_eq_false_iff_not, mem_one, ex_one, and_self]
    have ef : fnd 10 (xs.drop i0) = none := by
      have hj : (m - (i0 : Int)).toNat ≤ 10 := by omega
      have e1 := fnd_on (m - (i0 : Int)).toNat (10 - (m - (i0 : Int)).toNat) (xs.drop i0) hb
      rw [show 10 - (m - (i0 : Int)).toNat + (m - (i0 : Int)).toNat = 10 by omega] at e1
      rw [e1]
      rcases hm1.2.2.2 with e | e
      · rw [List.drop_drop, List.drop_of_length_le (by omega)]
        cases 10 - (m - (i0 : Int)).toNat <;> rfl
      · rw [show 10 - (m - (i0 : Int)).toNat = 0 by omega]
        rfl
    unfold readO at h
    rw [ef] at h
    exact h
end Lw

namespace Lw
open PySem PySem.Spec PyProof.Rows L2 VD
/-! ### the law's hand over a store: [cells, place, great, mixed, count] at a, the cells at c; what else is known is B -/
def IsH (a c : Addr) (B S : Sto) : Prop := ∃ (i g k n : Int) (cells : List Int), c ≠ a ∧ 0 ≤ i ∧ S = put (put B c (.lst (List.map Dv.int cells))) a (.lst [.ref c, .int i, .int g, .int k, .int n])
section
variable {B S T : Sto} {a c p : Addr} {m : MO}
theorem IsH.ca (h : IsH a c B S) : c ≠ a := by
  obtain ⟨i, g, k, n, cells, hca, _⟩ := h; exact hca
theorem IsH.at_ (h : IsH a c B S) (ha : p ≠ a) (hc : p ≠ c) : S p = B p := by
  obtain ⟨i, g, k, n, cells, hca, hi, rfl⟩ := h
  rw [put_ne ha, put_ne hc]
theorem IsH.free (h : IsH a c B S) (hp : S p = none) : p ≠ a ∧ p ≠ c ∧ B p = none := by
  have h0 := h
  obtain ⟨i, g, k, n, cells, hca, hi, rfl⟩ := h
  have ha : p ≠ a := fun e => by subst e; rw [put_same] at hp; cases hp
  have hc : p ≠ c := fun e => by subst e; rw [put_ne ha, put_same] at hp; cases hp
  exact ⟨ha, hc, by rw [← h0.at_ ha hc]; exact hp⟩
theorem IsH.wr (h : IsH a c B S) (ha : p ≠ a) (hc : p ≠ c) : IsH a c (put B p m) (put S p m) := by
  obtain ⟨i, g, k, n, cells, hca, hi, rfl⟩ := h
  refine ⟨i, g, k, n, cells, hca, hi, ?_⟩
  rw [put_comm ha.symm, put_comm hc.symm]
theorem IsH.new (h : IsH a c B S) (hp : S p = none) : IsH a c (put B p m) (put S p m) := h.wr (h.free hp).1 (h.free hp).2.1
theorem IsH.rm (h : IsH a c B S) (ha : p ≠ a) (hc : p ≠ c) : IsH a c (VD.rm B p) (VD.rm S p) := by
  obtain ⟨i, g, k, n, cells, hca, hi, rfl⟩ := h
  refine ⟨i, g, k, n, cells, hca, hi, ?_⟩
  funext b
  unfold VD.rm put
  by_cases h1 : b = p
  · subst h1
    simp [ha, hc]
  · simp [h1]
theorem IsH.rmNew (h : IsH a c (put B p m) S) (hB : B p = none) (ha : p ≠ a) (hc : p ≠ c) : IsH a c B (VD.rm S p) := by
  have := h.rm ha hc
  rwa [rm_put hB] at this
theorem IsH.sub (h : IsH a c B S) (hB : B a = none) (hC : B c = none) : Sub B S := fun b m e => by
  rw [h.at_ (fun z => by subst z; rw [hB] at e; cases e) (fun z => by subst z; rw [hC] at e; cases e)]
  exact e
end
def sp__law_draw (A : Ad) : SpD := fun ds S Q _ => ∃ a c B m, ds = [.ref a, .int m] ∧ IsH a c B S ∧ 0 < m ∧ m.natAbs < 2 ^ 8000 ∧ ∀ r S', IsH a c B S' → 0 ≤ r → r < m → Q (.int r) S'
theorem len__law_draw (A : Ad) : ∀ ds S Q X, sp__law_draw A ds S Q X → ds.length = 2 := by rintro _ _ _ _ ⟨_, _, _, _, rfl, _⟩; rfl
/-- how a draw is asked for -/
theorem ask {A : Ad} {a c : Addr} {B S : Sto} {m : Int} {Q : QD} {X : XD} (hH : IsH a c B S) (q : ∀ r S', IsH a c B S' → 0 ≤ r → r < m → Q (.int r) S') (hm : 0 < m := by decide) (hm2 : m < 2 ^ 64 := by decide) : sp__law_draw A [.ref a, .int m] S Q X :=
  ⟨a, c, B, m, rfl, hH, hm, Nat.lt_of_lt_of_le (show m.natAbs < 2 ^ 64 by omega) (Nat.pow_le_pow_right (by decide) (by decide)), q⟩
/-- a comprehension whose element draws: what holds of each item, by place -/
theorem lcV_hand {g : DG} {te : DE} {vs : List Nat} {ρ : Rho} {Q : QD} {items : List Dv} {stay : Sto → Prop} {B S : Sto} {a c : Addr} (P : Nat → Dv → Prop) (hH : IsH a c B S) (hl : items.length ≤ sizeLine)
    (hst : ∀ B' T, Sub B B' → IsH a c B' T → stay T)
    (he : ∀ i x, items[i]? = some x → ∀ (B' T : Sto) (K : QD), Sub B B' → IsH a c B' T → (∀ y T', P i y → IsH a c B' T' → K y T') → g x (wipeD ρ vs) T fun ρ2 S2 => te ρ2 S2 K X0)
    (hQ : ∀ acc T, IsH a c B T → acc.length = items.length → (∀ i y, acc[i]? = some y → P i y) → Q (.rol acc) T) : LcGo g dYes te vs ρ (fun d S1 => frzD d S1 Q) items stay S := by
  intro p hp
  obtain ⟨ha, hc, hB⟩ := hH.free hp
  refine ⟨fun i T => ∃ acc : List Dv, acc.length = i ∧ (∀ j y, acc[j]? = some y → P j y) ∧ IsH a c (put B p (.lst acc)) T, ⟨[], rfl, fun j y h => by simp at h, hH.new hp⟩, fun i T _ ⟨acc, _, _, h⟩ => hst _ T (Sub.new hB) h, fun i x T hx ⟨acc, h4, h5, h⟩ => ?_, fun T ⟨acc, h4, h5, h⟩ => ?_⟩
  · refine he i x hx _ T _ (Sub.new hB) h fun y T' hy ht => ⟨acc, by rw [ht.at_ ha hc, put_same], ?_, acc ++ [y], by simp [h4], fun j z hz => ?_, ?_⟩
    · have := (List.getElem?_eq_some_iff.mp hx).1
      omega
    · by_cases hj : j < acc.length
      · rw [List.getElem?_append_left hj] at hz
        exact h5 j z hz
      · rw [List.getElem?_append_right (by omega)] at hz
        have e : j = i := by
          have := (List.getElem?_eq_some_iff.mp hz).1
          simp at this
          omega
        subst e
        rw [h4, Nat.sub_self] at hz
        cases hz
        exact hy
    · have := ht.wr (m := .lst (acc ++ [y])) ha hc
      rwa [put_put] at this
  · unfold frzD
    dsimp only
    rw [h.at_ ha hc, put_same]
    exact hQ acc _ (h.rmNew hB ha hc) h4 h5
/-- items that are ints -/
theorem ints_of {P : Int → Prop} : ∀ {acc : List Dv}, (∀ (i : Nat) y, acc[i]? = some y → ∃ r, y = .int r ∧ P r) → ∃ ns : List Int, acc = List.map Dv.int ns ∧ ∀ n ∈ ns, P n
  | [], _ => ⟨[], rfl, fun _ h => by cases h⟩
  | y :: acc, h => by
    obtain ⟨r, rfl, hr⟩ := h 0 y rfl
    obtain ⟨ns, rfl, hn⟩ := ints_of (P := P) (acc := acc) fun i y hy => h (i + 1) y hy
    exact ⟨r :: ns, rfl, fun n hm => by rcases List.mem_cons.mp hm with rfl | hm; exact hr; exact hn n hm⟩
theorem mul_small {i j : Int} (h : 0 ≤ i) (h2 : i < 2147483647) : IntMulOk i j := mulok_l (by omega) (by omega)
def sp__law_hand (A : Ad) : SpD := fun ds S Q _ => ∃ ns : List Int, ds = [.rol (List.map Dv.int ns)] ∧ ns.length ≤ 63 ∧ ∀ a c S', S a = none → S c = none → IsH a c S S' → Q (.ref a) S'
theorem len__law_hand (A : Ad) : ∀ ds S Q X, sp__law_hand A ds S Q X → ds.length = 1 := by rintro _ _ _ _ ⟨_, rfl, _⟩; rfl
def r__law_hand (A : Ad) : DS := (dRet (dLst (dCons (dLc (iSeqD (dSlV (dVar 0) oNone (oSome (dC (.int 63))))) (gN 1) dYes (dCB rdInt (dCons (dVar 1) dNil)) [1]) (dCons (dC (.int 0)) (dCons (dC (.int 0)) (dCons (dOp rdAddV (dC (.int 1)) (dCB rdLen (dCons (dSlV (dVar 0) oNone (oSome (dC (.int 63)))) dNil))) (dCons (dC (.int 0)) dNil)))))))
theorem rd__law_hand (A : Ad) : Rd (r__law_hand A) 2 (sp__law_hand A) := by
  rintro ds S Q X ⟨ns, rfl, hl, h⟩
  unfold r__law_hand
  simp only [dSeq, dAsg, dRet, dRetN, dDrop, dRaise, dBreak, dCont, dPar, dAug, dFor, dNext, dSetF, dAugF, dRaiseF, dIfS, dTest, dOp, dVar, dC, dCB, dCons, dNil, dCall, dAndV, dOrV, dNotV, dAndT, dOrT, dNotT, dIf, dTup, dLst, dLstV, dSl, dSlV, rdSlV, oSome, oNone, dNeg, gN, gT, gConsD, gNilD, gSubD, gFldD, dChain, dLc, dBM, isLst, iSeqD, iR1, iR2, iR3, dYes, rdAddV, rdMulV, rdSub, rdDiv, rdMod, rdPow, rdIAdd, rdCmp, rdIsN, isn_non, isn_bl, isn_int, isn_str, isn_ref, isn_tup, isn_rol, isn_obj, rdEqG, rdIx_tup, rdIx_rol, rdIx_put, rdSet, rdLen_tup, rdLen_rol, rdLen_str, rdLen_put, rdInt1, rdInt, rdInt2, rdAppend, rdExt, rdPopAt, rdMaxL, rdMinL, rdListV, rdIsB, isBlV, rdStrI, rdIntS, dFrz, dFld, insOf_put, dMeth, lstOf_rol, lstOf_put, seqOf_tup, seqOf_rol, seqOf_put, frz_tup, frz_rol, frz_int, frz_bl, frz_non, frz_str, frz_obj, startN, wipeD, List.map_cons, List.map_nil, List.length_cons, List.length_nil, Nat.zero_add, Nat.sub_self, Nat.reduceAdd, Nat.reduceSub, List.replicate_succ, List.replicate_zero, List.cons_append, List.nil_append, List.append_nil, List.getElem?_cons_zero, List.getElem?_cons_succ, List.set_cons_zero, List.set_cons_succ, Option.some.injEq, exists_eq_left', DEnds.xd, atI_0, atI_1, atI_2, atI_3, atI_4, atI_5, atI_6, atI_7, ixN_50, ixN_51, ixN_52, ixN_53, ixN_54, ixN_30, ixN_31, ixN_32, put_same, put_put, true_and, and_true, decide_true, decide_false, Bool.not_true, Bool.not_false, Bool.false_eq_true, if_true, if_false, decide_eq_true_eq, Bool.not_eq_true', decide_eq_false_iff_not, mem_one, ex_one, and_self]
  have e1 : VD.cutD (List.map Dv.int ns) none (some 63) = List.map Dv.int (ns.take 63) := by
    rw [cut_take (by decide), ← List.map_take]
    rfl
  rw [e1]
  refine lc_pure (fun x => x) (by rw [sizeLine_eq, List.length_map, List.length_take]; omega) (fun _ _ _ => trivial) (fun x hx T Kq hs hq => ?_) fun c hc => ?_
  · obtain ⟨w, _, rfl⟩ := List.mem_map.mp hx
    simp only [dSeq, dAsg, dRet, dRetN, dDrop, dRaise, dBreak, dCont, dPar, dAug, dFor, dNext, dSetF, dAugF, dRaiseF, dIfS, dTest, dOp, dVar, dC, dCB, dCons, dNil, dCall, dAndV, dOrV, dNotV, dAndT, dOrT, dNotT, dIf, dTup, dLst, dLstV, dSl, dSlV, rdSlV, oSome, oNone, dNeg, gN, gT, gConsD, gNilD, gSubD, gFldD, dChain, dLc, dBM, isLst, iSeqD, iR1, iR2, iR3, dYes, rdAddV, rdMulV, rdSub, rdDiv, rdMod, rdPow, rdIAdd, rdCmp, rdIsN, isn_non, isn_bl, isn_int, isn_str, isn_ref, isn_tup, isn_rol, isn_obj, rdEqG, rdIx_tup, rdIx_rol, rdIx_put, rdSet, rdLen_tup, rdLen_rol, rdLen_str, rdLen_put, rdInt1, rdInt, rdInt2, rdAppend, rdExt, rdPopAt, rdMaxL, rdMinL, rdListV, rdIsB, isBlV, rdStrI, rdIntS, dFrz, dFld, insOf_put, dMeth, lstOf_rol, lstOf_put, seqOf_tup, seqOf_rol, seqOf_put, frz_tup, frz_rol, frz_int, frz_bl, frz_non, frz_str, frz_obj, startN, wipeD, List.map_cons, List.map_nil, List.length_cons, List.length_nil, Nat.zero_add, Nat.sub_self, Nat.reduceAdd, Nat.reduceSub, List.replicate_succ, List.replicate_zero, List.cons_append, List.nil_append, List.append_nil, List.getElem?_cons_zero, List.getElem?_cons_succ, List.set_cons_zero, List.set_cons_succ, Option.some.injEq, exists_eq_left', DEnds.xd, atI_0, atI_1, atI_2, atI_3, atI_4, atI_5, atI_6, atI_7, ixN_50, ixN_51, ixN_52, ixN_53, ixN_54, ixN_30, ixN_31, ixN_32, put_same, put_put, true_and, and_true, decide_true, decide_false, Bool.not_true, Bool.not_false, Bool.false_eq_true, if_true, if_false, decide_eq_true_eq, Bool.not_eq_true', decide_eq_false_iff_not, mem_one, ex_one, and_self]
    exact hq
  · refine ⟨by rw [sizeLine_eq]; decide, fun a ha => ?_⟩
    have hca : c ≠ a := ne_of put_same ha
    refine h a c _ (by rwa [put_ne hca.symm] at ha) hc ⟨0, 0, 1 + ((List.map Dv.int (ns.take 63)).length : Int), 0, ns.take 63, hca, by decide, ?_⟩
    rw [List.map_id']
def r__law_draw (A : Ad) : DS := (dSeq (dIfS (dAndT (dTest (dOp rdEq (dOp rdIx (dVar 0) (dC (.int 2))) (dC (.int 0)))) (dTest (dOp rdLt (dOp rdIx (dVar 0) (dC (.int 1))) (dCB rdLen (dCons (dOp rdIx (dVar 0) (dC (.int 0))) dNil))))) (dSeq (dAsg (dOp rdIx (dOp rdIx (dVar 0) (dC (.int 0))) (dOp rdIx (dVar 0) (dC (.int 1)))) (gN 2))
    (dSeq (dAsg (dOp rdAddV (dOp rdIx (dVar 0) (dC (.int 1))) (dC (.int 1))) (gSubD rdSet (dVar 0) (dC (.int 1))))
    (dSeq (dAsg (dOp rdMod (dCB rdInt (dCons (dOp rdAddV (dOp rdAddV (dOp rdMulV (dOp rdIx (dVar 0) (dC (.int 3))) (dC (.int 69621))) (dOp rdMulV (dVar 2) (dC (.int 16)))) (dC (.int 11))) dNil)) (dC (.int 2147483629))) (gSubD rdSet (dVar 0) (dC (.int 3))))
    (dIfS (dTest (dOp rdGe (dVar 2) (dOp rdPow (dC (.int 10)) (dC (.int 18))))) (dAsg (dVar 2) (gSubD rdSet (dVar 0) (dC (.int 2)))) dNext)))) dNext)
    (dSeq (dIfS (dTest (dOp rdGt (dOp rdIx (dVar 0) (dC (.int 2))) (dC (.int 0)))) (dSeq (dAsg (dOp rdMod (dCB rdInt (dCons (dOp rdIx (dVar 0) (dC (.int 2))) dNil)) (dVar 1)) (gN 3))
    (dSeq (dAsg (dOp rdDiv (dOp rdIx (dVar 0) (dC (.int 2))) (dVar 1)) (gSubD rdSet (dVar 0) (dC (.int 2))))
    (dRet (dVar 3)))) dNext)
    (dSeq (dAsg (dOp rdAddV (dOp rdIx (dVar 0) (dC (.int 4))) (dC (.int 1))) (gSubD rdSet (dVar 0) (dC (.int 4))))
    (dSeq (dAsg (dOp rdMod (dCB rdInt (dCons (dOp rdMulV (dCB rdInt (dCons (dOp rdAddV (dOp rdIx (dVar 0) (dC (.int 3))) (dOp rdMulV (dC (.int 7919)) (dOp rdIx (dVar 0) (dC (.int 4))))) dNil)) (dC (.int 48271))) dNil)) (dC (.int 2147483647))) (gN 4))
    (dSeq (dAsg (dOp rdMod (dCB rdInt (dCons (dOp rdMulV (dVar 4) (dOp rdAddV (dOp rdDiv (dVar 4) (dC (.int 1009))) (dC (.int 69621)))) dNil)) (dC (.int 2147483647))) (gN 4))
    (dSeq (dAsg (dOp rdMod (dCB rdInt (dCons (dOp rdMulV (dVar 4) (dOp rdAddV (dOp rdDiv (dVar 4) (dC (.int 2003))) (dC (.int 40692)))) dNil)) (dC (.int 2147483399))) (gN 4))
    (dRet (dOp rdMod (dCB rdInt (dCons (dOp rdDiv (dVar 4) (dC (.int 16))) dNil)) (dVar 1)))))))))
theorem rd__law_draw (A : Ad) : Rd (r__law_draw A) 5 (sp__law_draw A) := by
  rintro ds S Q X ⟨a, c, B, m, rfl, hH, hm, hm2, h⟩
  unfold r__law_draw
  refine cut_seq (fun ρ T => IsH a c B T ∧ ∃ y, ρ = [some (.ref a), some (.int m), y, none, none]) (fun N hN => ?_) (fun ρ T hM => ?_)
  · obtain ⟨i, g, k, n, cells, hca, hi, rfl⟩ := id hH
    simp only [dIfS, dTest, dOp, dVar, dC, dCB, dCons, dNil, dCall, dAndV, dOrV, dNotV, dAndT, dOrT, dNotT, dIf, dTup, dLst, dLstV, dSl, dSlV, rdSlV, oSome, oNone, dNeg, gN, gT, gConsD, gNilD, gSubD, gFldD, dChain, dLc, dBM, isLst, iSeqD, iR1, iR2, iR3, dYes, rdAddV, rdMulV, rdSub, rdDiv, rdMod, rdPow, rdIAdd, rdCmp, rdIsN, isn_non, isn_bl, isn_int, isn_str, isn_ref, isn_tup, isn_rol, isn_obj, rdEqG, rdIx_tup, rdIx_rol, rdIx_put, rdSet, rdLen_tup, rdLen_rol, rdLen_str, rdLen_put, rdInt1, rdInt, rdInt2, rdAppend, rdExt, rdPopAt, rdMaxL, rdMinL, rdListV, rdIsB, isBlV, rdStrI, rdIntS, dFrz, dFld, insOf_put, dMeth, lstOf_rol, lstOf_put, seqOf_tup, seqOf_rol, seqOf_put, frz_tup, frz_rol, frz_int, frz_bl, frz_non, frz_str, frz_obj, startN, wipeD, List.map_cons, List.map_nil, List.length_cons, List.length_nil, Nat.zero_add, Nat.sub_self, Nat.reduceAdd, Nat.reduceSub, List.replicate_succ, List.replicate_zero, List.cons_append, List.nil_append, List.append_nil, List.getElem?_cons_zero, List.getElem?_cons_succ, List.set_cons_zero, List.set_cons_succ, Option.some.injEq, exists_eq_left', DEnds.xd, atI_0, atI_1, atI_2, atI_3, atI_4, atI_5, atI_6, atI_7, ixN_50, ixN_51, ixN_52, ixN_53, ixN_54, ixN_30, ixN_31, ixN_32, put_same, put_put, true_and, and_true, decide_true, decide_false, Bool.not_true, Bool.not_false, Bool.false_eq_true, if_true, if_false, decide_eq_true_eq, Bool.not_eq_true', decide_eq_false_iff_not, mem_one, ex_one, and_self, rdIx, rdLen, put_ne hca]
    have e0 : ∃ y, [some (Dv.ref a), some (Dv.int m), none, none, none] = [some (.ref a), some (.int m), y, none, none] := ⟨_, rfl⟩
    by_cases h1 : g = 0
    · rw [if_pos h1]
      by_cases h2 : i < ((List.map Dv.int cells).length : Int)
      · rw [if_pos h2]
        have hr : i.toNat < cells.length := by rw [List.length_map] at h2; omega
        refine cut_seq (fun ρ T => T = put (put B c (.lst (List.map Dv.int cells))) a (.lst [.ref c, .int i, .int g, .int k, .int n]) ∧ ∃ z, ρ = [some (.ref a), some (.int m), some (.int z), none, none]) (fun N2 hN2 => ?_) (fun ρ T hM => ?_)
        · simp only [dSeq, dAsg, dRet, dRetN, dDrop, dRaise, dBreak, dCont, dPar, dAug, dFor, dNext, dSetF, dAugF, dRaiseF, dIfS, dTest, dOp, dVar, dC, dCB, dCons, dNil, dCall, dAndV, dOrV, dNotV, dAndT, dOrT, dNotT, dIf, dTup, dLst, dLstV, dSl, dSlV, rdSlV, oSome, oNone, dNeg, gN, gT, gConsD, gNilD, gSubD, gFldD, dChain, dLc, dBM, isLst, iSeqD, iR1, iR2, iR3, dYes, rdAddV, rdMulV, rdSub, rdDiv, rdMod, rdPow, rdIAdd, rdCmp, rdIsN, isn_non, isn_bl, isn_int, isn_str, isn_ref, isn_tup, isn_rol, isn_obj, rdEqG, rdIx_tup, rdIx_rol, rdIx_put, rdSet, rdLen_tup, rdLen_rol, rdLen_str, rdLen_put, rdInt1, rdInt, rdInt2, rdAppend, rdExt, rdPopAt, rdMaxL, rdMinL, rdListV, rdIsB, isBlV, rdStrI, rdIntS, dFrz, dFld, insOf_put, dMeth, lstOf_rol, lstOf_put, seqOf_tup, seqOf_rol, seqOf_put, frz_tup, frz_rol, frz_int, frz_bl, frz_non, frz_str, frz_obj, startN, wipeD, List.map_cons, List.map_nil, List.length_cons, List.length_nil, Nat.zero_add, Nat.sub_self, Nat.reduceAdd, Nat.reduceSub, List.replicate_succ, List.replicate_zero, List.cons_append, List.nil_append, List.append_nil, List.getElem?_cons_zero, List.getElem?_cons_succ, List.set_cons_zero, List.set_cons_succ, Option.some.injEq, exists_eq_left', DEnds.xd, atI_0, atI_1, atI_2, atI_3, atI_4, atI_5, atI_6, atI_7, ixN_50, ixN_51, ixN_52, ixN_53, ixN_54, ixN_30, ixN_31, ixN_32, put_same, put_put, true_and, and_true, decide_true, decide_false, Bool.not_true, Bool.not_false, Bool.false_eq_true, if_true, if_false, decide_eq_true_eq, Bool.not_eq_true', decide_eq_false_iff_not, mem_one, ex_one, and_self, rdIx, rdLen, put_ne hca]
          exact ⟨.int cells[i.toNat], by rw [atI_nn hi, List.getElem?_map, List.getElem?_eq_getElem hr]; rfl, hN2 _ _ ⟨rfl, _, rfl⟩⟩
        · obtain ⟨rfl, z, rfl⟩ := hM
          simp only [dSeq, dAsg, dRet, dRetN, dDrop, dRaise, dBreak, dCont, dPar, dAug, dFor, dNext, dSetF, dAugF, dRaiseF, dIfS, dTest, dOp, dVar, dC, dCB, dCons, dNil, dCall, dAndV, dOrV, dNotV, dAndT, dOrT, dNotT, dIf, dTup, dLst, dLstV, dSl, dSlV, rdSlV, oSome, oNone, dNeg, gN, gT, gConsD, gNilD, gSubD, gFldD, dChain, dLc, dBM, isLst, iSeqD, iR1, iR2, iR3, dYes, rdAddV, rdMulV, rdSub, rdDiv, rdMod, rdPow, rdIAdd, rdCmp, rdIsN, isn_non, isn_bl, isn_int, isn_str, isn_ref, isn_tup, isn_rol, isn_obj, rdEqG, rdIx_tup, rdIx_rol, rdIx_put, rdSet, rdLen_tup, rdLen_rol, rdLen_str, rdLen_put, rdInt1, rdInt, rdInt2, rdAppend, rdExt, rdPopAt, rdMaxL, rdMinL, rdListV, rdIsB, isBlV, rdStrI, rdIntS, dFrz, dFld, insOf_put, dMeth, lstOf_rol, lstOf_put, seqOf_tup, seqOf_rol, seqOf_put, frz_tup, frz_rol, frz_int, frz_bl, frz_non, frz_str, frz_obj, startN, wipeD, List.map_cons, List.map_nil, List.length_cons, List.length_nil, Nat.zero_add, Nat.sub_self, Nat.reduceAdd, Nat.reduceSub, List.replicate_succ, List.replicate_zero, List.cons_append, List.nil_append, List.append_nil, List.getElem?_cons_zero, List.getElem?_cons_succ, List.set_cons_zero, List.set_cons_succ, Option.some.injEq, exists_eq_left', DEnds.xd, atI_0, atI_1, atI_2, atI_3, atI_4, atI_5, atI_6, atI_7, ixN_50, ixN_51, ixN_52, ixN_53, ixN_54, ixN_30, ixN_31, ixN_32, put_same, put_put, true_and, and_true, decide_true, decide_false, Bool.not_true, Bool.not_false, Bool.false_eq_true, if_true, if_false, decide_eq_true_eq, Bool.not_eq_true', decide_eq_false_iff_not, mem_one, ex_one, and_self, rdIx, rdLen, put_ne hca]
          refine ⟨mulok_r (by decide) (by decide), mulok_r (by decide) (by decide), by decide, ⟨by decide, by decide, by decide⟩, ?_⟩
          split
          · exact hN _ _ ⟨⟨_, _, _, _, cells, hca, by omega, rfl⟩, _, rfl⟩
          · exact hN _ _ ⟨⟨_, _, _, _, cells, hca, by omega, rfl⟩, _, rfl⟩
      · rw [if_neg h2]
        exact hN _ _ ⟨hH, e0⟩
    · rw [if_neg h1]
      exact hN _ _ ⟨hH, e0⟩
  · obtain ⟨hd, y, rfl⟩ := hM
    refine cut_seq (fun ρ T => IsH a c B T ∧ ∃ y, ρ = [some (.ref a), some (.int m), y, none, none]) (fun N hN => ?_) (fun ρ T hM => ?_)
    · obtain ⟨i, g, k, n, cells, hca, hi, rfl⟩ := id hd
      simp only [dSeq, dAsg, dRet, dRetN, dDrop, dRaise, dBreak, dCont, dPar, dAug, dFor, dNext, dSetF, dAugF, dRaiseF, dIfS, dTest, dOp, dVar, dC, dCB, dCons, dNil, dCall, dAndV, dOrV, dNotV, dAndT, dOrT, dNotT, dIf, dTup, dLst, dLstV, dSl, dSlV, rdSlV, oSome, oNone, dNeg, gN, gT, gConsD, gNilD, gSubD, gFldD, dChain, dLc, dBM, isLst, iSeqD, iR1, iR2, iR3, dYes, rdAddV, rdMulV, rdSub, rdDiv, rdMod, rdPow, rdIAdd, rdCmp, rdIsN, isn_non, isn_bl, isn_int, isn_str, isn_ref, isn_tup, isn_rol, isn_obj, rdEqG, rdIx_tup, rdIx_rol, rdIx_put, rdSet, rdLen_tup, rdLen_rol, rdLen_str, rdLen_put, rdInt1, rdInt, rdInt2, rdAppend, rdExt, rdPopAt, rdMaxL, rdMinL, rdListV, rdIsB, isBlV, rdStrI, rdIntS, dFrz, dFld, insOf_put, dMeth, lstOf_rol, lstOf_put, seqOf_tup, seqOf_rol, seqOf_put, frz_tup, frz_rol, frz_int, frz_bl, frz_non, frz_str, frz_obj, startN, wipeD, List.map_cons, List.map_nil, List.length_cons, List.length_nil, Nat.zero_add, Nat.sub_self, Nat.reduceAdd, Nat.reduceSub, List.replicate_succ, List.replicate_zero, List.cons_append, List.nil_append, List.append_nil, List.getElem?_cons_zero, List.getElem?_cons_succ, List.set_cons_zero, List.set_cons_succ, Option.some.injEq, exists_eq_left', DEnds.xd, atI_0, atI_1, atI_2, atI_3, atI_4, atI_5, atI_6, atI_7, ixN_50, ixN_51, ixN_52, ixN_53, ixN_54, ixN_30, ixN_31, ixN_32, put_same, put_put, true_and, and_true, decide_true, decide_false, Bool.not_true, Bool.not_false, Bool.false_eq_true, if_true, if_false, decide_eq_true_eq, Bool.not_eq_true', decide_eq_false_iff_not, mem_one, ex_one, and_self, rdIx, rdLen, put_ne hca]
      split
      · exact ⟨hm, divp 8000 hm hm2, h _ _ ⟨_, _, _, _, cells, hca, hi, rfl⟩ (Int.emod_nonneg _ (by omega)) (Int.emod_lt_of_pos _ hm)⟩
      · exact hN _ _ ⟨hd, _, rfl⟩
    · obtain ⟨hd, y, rfl⟩ := hM
      obtain ⟨i, g, k, n, cells, hca, hi, rfl⟩ := id hd
      simp only [dSeq, dAsg, dRet, dRetN, dDrop, dRaise, dBreak, dCont, dPar, dAug, dFor, dNext, dSetF, dAugF, dRaiseF, dIfS, dTest, dOp, dVar, dC, dCB, dCons, dNil, dCall, dAndV, dOrV, dNotV, dAndT, dOrT, dNotT, dIf, dTup, dLst, dLstV, dSl, dSlV, rdSlV, oSome, oNone, dNeg, gN, gT, gConsD, gNilD, gSubD, gFldD, dChain, dLc, dBM, isLst, iSeqD, iR1, iR2, iR3, dYes, rdAddV, rdMulV, rdSub, rdDiv, rdMod, rdPow, rdIAdd, rdCmp, rdIsN, isn_non, isn_bl, isn_int, isn_str, isn_ref, isn_tup, isn_rol, isn_obj, rdEqG, rdIx_tup, rdIx_rol, rdIx_put, rdSet, rdLen_tup, rdLen_rol, rdLen_str, rdLen_put, rdInt1, rdInt, rdInt2, rdAppend, rdExt, rdPopAt, rdMaxL, rdMinL, rdListV, rdIsB, isBlV, rdStrI, rdIntS, dFrz, dFld, insOf_put, dMeth, lstOf_rol, lstOf_put, seqOf_tup, seqOf_rol, seqOf_put, frz_tup, frz_rol, frz_int, frz_bl, frz_non, frz_str, frz_obj, startN, wipeD, List.map_cons, List.map_nil, List.length_cons, List.length_nil, Nat.zero_add, Nat.sub_self, Nat.reduceAdd, Nat.reduceSub, List.replicate_succ, List.replicate_zero, List.cons_append, List.nil_append, List.append_nil, List.getElem?_cons_zero, List.getElem?_cons_succ, List.set_cons_zero, List.set_cons_succ, Option.some.injEq, exists_eq_left', DEnds.xd, atI_0, atI_1, atI_2, atI_3, atI_4, atI_5, atI_6, atI_7, ixN_50, ixN_51, ixN_52, ixN_53, ixN_54, ixN_30, ixN_31, ixN_32, put_same, put_put, true_and, and_true, decide_true, decide_false, Bool.not_true, Bool.not_false, Bool.false_eq_true, if_true, if_false, decide_eq_true_eq, Bool.not_eq_true', decide_eq_false_iff_not, mem_one, ex_one, and_self, rdIx, rdLen, put_ne hca]
      have b1 : ∀ x : Int, 0 ≤ x % 2147483647 ∧ x % 2147483647 < 2147483647 := fun x => by omega
      exact ⟨mulok_l (by decide) (by decide), mulok_r (by decide) (by decide), by decide, divp 64 (by decide) (by decide), mul_small (b1 _).1 (b1 _).2, by decide, divp 64 (by decide) (by decide), mul_small (b1 _).1 (b1 _).2, by decide, divp 64 (by decide) (by decide), hm, h _ _ ⟨_, _, _, _, cells, hca, hi, rfl⟩ (Int.emod_nonneg _ (by omega)) (Int.emod_lt_of_pos _ hm)⟩
end Lw

namespace Lw
open PySem PySem.Spec PyProof.Rows L2 VD
/-! ### the same plain thing -/
def plain : Nat → Dv → Prop
  | 0, _ => False
  | n + 1, d => match d with
    | .non => True
    | .bl _ => True
    | .int _ => True
    | .str _ => True
    | .tup xs => xs.length ≤ sizeLine ∧ ∀ x ∈ xs, plain n x
    | .rol xs => xs.length ≤ sizeLine ∧ ∀ x ∈ xs, plain n x
    | _ => False
theorem plain_pl {n : Nat} {d : Dv} (h : plain n d) : isPl d = true := by
  cases n with
  | zero => exact h.elim
  | succ n => cases d <;> first | rfl | exact h.elim
theorem plain_up : ∀ {n : Nat} {d : Dv}, plain n d → plain (n + 1) d
  | 0, _, h => h.elim
  | n + 1, d, h => by
    cases d with
    | tup xs => exact ⟨h.1, fun x hx => plain_up (h.2 x hx)⟩
    | rol xs => exact ⟨h.1, fun x hx => plain_up (h.2 x hx)⟩
    | _ => exact h
theorem plain_le {n m : Nat} {d : Dv} (h : plain n d) (l : n ≤ m) : plain m d := by
  induction l with
  | refl => exact h
  | step _ ih => exact plain_up ih
def sp__law_is (A : Ad) : Nat → SpD
  | 0 => fun _ _ _ _ => False
  | n + 1 => fun ds S Q _ => ∃ x y d, ds = [x, y] ∧ valOf x S = d ∧ valOf y S = d ∧ plain (n + 1) d ∧ Q (.bl true) S
theorem len__law_is (A : Ad) : ∀ n ds S Q X, sp__law_is A n ds S Q X → ds.length = 2
  | 0, _, _, _, _, h => h.elim
  | _ + 1, _, _, _, _, ⟨_, _, _, rfl, _⟩ => rfl
theorem valOf_pl {d : Dv} {S : Sto} (h : isPl d = true) : valOf d S = d := by
  cases d <;> first | rfl | cases h
/-- the same value twice -/
theorem is_same {A : Ad} {n : Nat} {d : Dv} {S : Sto} {Q : QD} {X : XD} (h : plain (n + 1) d) (q : Q (.bl true) S) : sp__law_is A (n + 1) [d, d] S Q X :=
  ⟨d, d, d, rfl, valOf_pl (plain_pl h), valOf_pl (plain_pl h), h, q⟩
theorem pairs_self {xs : List Dv} {x : Dv} (h : x ∈ pairs xs xs) : ∃ d ∈ xs, x = .tup [d, d] := by
  obtain ⟨i, hi, rfl⟩ := List.mem_iff_getElem.mp h
  obtain ⟨u, v, h1, h2, h3⟩ := pairs_get (List.getElem?_eq_getElem hi)
  rw [h1] at h2
  cases h2
  exact ⟨u, List.mem_of_getElem? h1, h3⟩
/-- what is a value that is no sequence -/
theorem valOf_i {x d : Dv} {S : Sto} (h : valOf x S = d) (hd : isPl d = true) : x = d ∨ ∃ a xs, x = .ref a ∧ S a = some (.lst xs) ∧ d = .rol xs := by
  unfold VD.valOf at h
  split at h
  · rename_i a
    split at h
    · rename_i xs e; exact .inr ⟨a, xs, rfl, e, h.symm⟩
    · subst h; cases hd
  · exact .inl h
theorem known_val {A : Ad} {x d : Dv} {S : Sto} (h : valOf x S = d) (hd : isPl d = true) : known A S x := by
  rcases valOf_i h hd with rfl | ⟨a, xs, rfl, e, rfl⟩
  · exact kn_pl hd
  · exact ⟨.type "list", by dsimp only [tyD]; rw [e], fun _ e => by cases e⟩
theorem isSeq_val {x d : Dv} {S : Sto} (h : valOf x S = d) (hd : isPl d = true) : isSeq S x = isSeq S d ∧ isTup x = isTup d ∧ isBl x = isBl d := by
  rcases valOf_i h hd with rfl | ⟨a, xs, rfl, e, rfl⟩
  · exact ⟨rfl, rfl, rfl⟩
  · unfold isSeq; dsimp only; rw [e]; exact ⟨rfl, rfl, rfl⟩
theorem len_val {x : Dv} {xs : List Dv} {S : Sto} {Q : QD} (h : valOf x S = .tup xs ∨ valOf x S = .rol xs) (q : Q (.int xs.length) S) : rdLen [x] S Q := by
  rcases h with h | h
  · rcases valOf_i h rfl with rfl | ⟨a, ys, rfl, e, e2⟩
    · exact q
    · cases e2
  · rcases valOf_i h rfl with rfl | ⟨a, ys, rfl, e, e2⟩
    · exact q
    · cases e2; unfold rdLen; dsimp only; rw [e]; exact q
theorem lstOf_val {x : Dv} {xs : List Dv} {S : Sto} {R : List Dv → Prop} (h : valOf x S = .rol xs) (q : R xs) : lstOf x S R := by
  rcases valOf_i h rfl with rfl | ⟨a, ys, rfl, e, e2⟩
  · exact q
  · cases e2; unfold lstOf; dsimp only; rw [e]; exact q
theorem isL_val {x : Dv} {xs : List Dv} {S T : Sto} (h : valOf x S = .rol xs) (s : Sub S T) : isL x T xs := by
  unfold isL
  rcases valOf_i h rfl with rfl | ⟨a, ys, rfl, e, e2⟩
  · rfl
  · cases e2; unfold lstOf; dsimp only; rw [s _ _ e]
def r__law_is (A : Ad) (sp_self : SpD) : DS := (dSeq (dIfS (dTest (dCB (rdIsi A.ot) (dCons (dVar 1) (dCons (dTup (dCons (dC (.ty "tuple")) (dCons (dC (.ty "list")) dNil))) dNil)))) (dSeq (dIfS (dOrT (dTest (dOp rdNe (dCB (rdIsi A.ot) (dCons (dVar 0) (dCons (dC (.ty "tuple")) dNil))) (dCB (rdIsi A.ot) (dCons (dVar 1) (dCons (dC (.ty "tuple")) dNil))))) (dNotT (dTest (dCB (rdIsi A.ot) (dCons (dVar 0) (dCons (dTup (dCons (dC (.ty "tuple")) (dCons (dC (.ty "list")) dNil))) dNil)))))) (dRet (dC (.bl false))) dNext)
    (dRet (dAndV (dOp rdEq (dCB rdLen (dCons (dVar 0) dNil)) (dCB rdLen (dCons (dVar 1) dNil))) (dCB rdAll (dCons (dFrz (dLc (iZipD (dCons (dVar 0) (dCons (dVar 1) dNil))) (gT 2 (gConsD (gN 2) (gConsD (gN 3) gNilD))) dYes (dCall sp_self (dCons (dVar 2) (dCons (dVar 3) dNil))) [2, 3])) dNil))))) dNext)
    (dRet (dAndV (dOp rdEq (dCB (rdIsi A.ot) (dCons (dVar 0) (dCons (dC (.ty "bool")) dNil))) (dCB (rdIsi A.ot) (dCons (dVar 1) (dCons (dC (.ty "bool")) dNil)))) (dOp rdEq (dVar 0) (dVar 1)))))
theorem rd__law_is (A : Ad) (n : Nat) : Rd (r__law_is A (sp__law_is A n)) 4 (sp__law_is A (n + 1)) := by
  rintro ds S Q X ⟨x, y, d, rfl, hx, hy, hp, h⟩
  unfold r__law_is
  have hpl := plain_pl hp
  obtain ⟨x1, x2, x3⟩ := isSeq_val hx hpl
  obtain ⟨y1, y2, y3⟩ := isSeq_val hy hpl
  simp only [dSeq, dAsg, dRet, dRetN, dDrop, dRaise, dBreak, dCont, dPar, dAug, dFor, dNext, dSetF, dAugF, dRaiseF, dIfS, dTest, dOp, dVar, dC, dCB, dCons, dNil, dCall, dAndV, dOrV, dNotV, dAndT, dOrT, dNotT, dIf, dTup, dLst, dLstV, dSl, dSlV, rdSlV, oSome, oNone, dNeg, gN, gT, gConsD, gNilD, gSubD, gFldD, dChain, dLc, dBM, isLst, iSeqD, iR1, iR2, iR3, dYes, rdAddV, rdMulV, rdSub, rdDiv, rdMod, rdPow, rdIAdd, rdCmp, rdIsN, isn_non, isn_bl, isn_int, isn_str, isn_ref, isn_tup, isn_rol, isn_obj, rdEqG, rdIx_tup, rdIx_rol, rdIx_put, rdSet, rdLen_tup, rdLen_rol, rdLen_str, rdLen_put, rdInt1, rdInt, rdInt2, rdAppend, rdExt, rdPopAt, rdMaxL, rdMinL, rdListV, rdIsB, isBlV, rdStrI, rdIntS, dFrz, dFld, insOf_put, dMeth, lstOf_rol, lstOf_put, seqOf_tup, seqOf_rol, seqOf_put, frz_tup, frz_rol, frz_int, frz_bl, frz_non, frz_str, frz_obj, startN, wipeD, List.map_cons, List.map_nil, List.length_cons, List.length_nil, Nat.zero_add, Nat.sub_self, Nat.reduceAdd, Nat.reduceSub, List.replicate_succ, List.replicate_zero, List.cons_append, List.nil_append, List.append_nil, List.getElem?_cons_zero, List.getElem?_cons_succ, List.set_cons_zero, List.set_cons_succ, Option.some.injEq, exists_eq_left', DEnds.xd, atI_0, atI_1, atI_2, atI_3, atI_4, atI_5, atI_6, atI_7, ixN_50, ixN_51, ixN_52, ixN_53, ixN_54, ixN_30, ixN_31, ixN_32, put_same, put_put, true_and, and_true, decide_true, decide_false, Bool.not_true, Bool.not_false, Bool.false_eq_true, if_true, if_false, decide_eq_true_eq, Bool.not_eq_true', decide_eq_false_iff_not, mem_one, ex_one, and_self]
  refine ⟨sl2, isi_tl (known_val hy hpl) ?_⟩
  rw [y1]
  have items : ∀ xs : List Dv, (∀ z ∈ xs, plain n z) → ∀ z ∈ pairs xs xs, ∀ (T : Sto) (K : QD), Sub S T → K (.bl true) T → gT 2 (gConsD (gN 2) (gConsD (gN 3) gNilD)) z (wipeD [some x, some y, none, none] [2, 3]) T fun ρ2 S2 => dCall (sp__law_is A n) (dCons (dVar 2) (dCons (dVar 3) dNil)) ρ2 S2 K X0 := by
    intro xs hxs z hz T K hs hq
    obtain ⟨w, hw, rfl⟩ := pairs_self hz
    simp only [dSeq, dAsg, dRet, dRetN, dDrop, dRaise, dBreak, dCont, dPar, dAug, dFor, dNext, dSetF, dAugF, dRaiseF, dIfS, dTest, dOp, dVar, dC, dCB, dCons, dNil, dCall, dAndV, dOrV, dNotV, dAndT, dOrT, dNotT, dIf, dTup, dLst, dLstV, dSl, dSlV, rdSlV, oSome, oNone, dNeg, gN, gT, gConsD, gNilD, gSubD, gFldD, dChain, dLc, dBM, isLst, iSeqD, iR1, iR2, iR3, dYes, rdAddV, rdMulV, rdSub, rdDiv, rdMod, rdPow, rdIAdd, rdCmp, rdIsN, isn_non, isn_bl, isn_int, isn_str, isn_ref, isn_tup, isn_rol, isn_obj, rdEqG, rdIx_tup, rdIx_rol, rdIx_put, rdSet, rdLen_tup, rdLen_rol, rdLen_str, rdLen_put, rdInt1, rdInt, rdInt2, rdAppend, rdExt, rdPopAt, rdMaxL, rdMinL, rdListV, rdIsB, isBlV, rdStrI, rdIntS, dFrz, dFld, insOf_put, dMeth, lstOf_rol, lstOf_put, seqOf_tup, seqOf_rol, seqOf_put, frz_tup, frz_rol, frz_int, frz_bl, frz_non, frz_str, frz_obj, startN, wipeD, List.map_cons, List.map_nil, List.length_cons, List.length_nil, Nat.zero_add, Nat.sub_self, Nat.reduceAdd, Nat.reduceSub, List.replicate_succ, List.replicate_zero, List.cons_append, List.nil_append, List.append_nil, List.getElem?_cons_zero, List.getElem?_cons_succ, List.set_cons_zero, List.set_cons_succ, Option.some.injEq, exists_eq_left', DEnds.xd, atI_0, atI_1, atI_2, atI_3, atI_4, atI_5, atI_6, atI_7, ixN_50, ixN_51, ixN_52, ixN_53, ixN_54, ixN_30, ixN_31, ixN_32, put_same, put_put, true_and, and_true, decide_true, decide_false, Bool.not_true, Bool.not_false, Bool.false_eq_true, if_true, if_false, decide_eq_true_eq, Bool.not_eq_true', decide_eq_false_iff_not, mem_one, ex_one, and_self]
    cases n with
    | zero => exact (hxs w hw).elim
    | succ n => exact is_same (hxs w hw) hq
  have fin : ∀ xs : List Dv, (List.map (fun _ => Dv.bl true) (pairs xs xs)) = List.map Dv.bl (List.replicate (pairs xs xs).length true) := fun xs => by rw [List.map_const', List.map_replicate]
  have leaf : isSeq S d = false → if isSeq S d = true then False else rdIsi A.ot [x, .ty "bool"] S fun u S1 => rdIsi A.ot [y, .ty "bool"] S1 fun v S2 => rdEq u v S2 fun w S3 => match w with
      | .bl true => rdEq x y S3 Q
      | .bl false => Q (.bl false) S3
      | _ => False := by
    intro e
    rw [if_neg (by rw [e]; decide)]
    refine isi_bool (known_val hx hpl) (isi_bool (known_val hy hpl) ?_)
    rw [x3, y3]
    unfold rdEq rdEqG
    dsimp only
    rw [decide_eq_true rfl]
    dsimp only
    have hxd : x = d := by
      rcases valOf_i hx hpl with e1 | ⟨a, xs, rfl, e1, rfl⟩
      · exact e1
      · cases e
    have hyd : y = d := by
      rcases valOf_i hy hpl with e1 | ⟨a, xs, rfl, e1, rfl⟩
      · exact e1
      · cases e
    subst hxd
    subst hyd
    cases y with
    | non => exact ⟨⟨shp_non, shp_non⟩, h⟩
    | bl b => simpa using h
    | int b => simpa using h
    | str b => simpa using h
    | tup xs => cases e
    | rol xs => cases e
    | _ => exact hp.elim
  cases d with
  | tup xs =>
    refine iteT ?_
    refine isi_tuple (known_val hx hpl) (isi_tuple (known_val hy hpl) ?_)
    rw [x2, y2]
    unfold rdNe rdEqG
    dsimp only
    rw [decide_eq_true rfl]
    refine iteF ⟨sl2, isi_tl (known_val hx hpl) ?_⟩
    rw [x1]
    dsimp only
    rw [if_neg (by simp [isSeq])]
    refine len_val (.inl hx) (len_val (.inl hy) ?_)
    simp only [dSeq, dAsg, dRet, dRetN, dDrop, dRaise, dBreak, dCont, dPar, dAug, dFor, dNext, dSetF, dAugF, dRaiseF, dIfS, dTest, dOp, dVar, dC, dCB, dCons, dNil, dCall, dAndV, dOrV, dNotV, dAndT, dOrT, dNotT, dIf, dTup, dLst, dLstV, dSl, dSlV, rdSlV, oSome, oNone, dNeg, gN, gT, gConsD, gNilD, gSubD, gFldD, dChain, dLc, dBM, isLst, iSeqD, iR1, iR2, iR3, dYes, rdAddV, rdMulV, rdSub, rdDiv, rdMod, rdPow, rdIAdd, rdCmp, rdIsN, isn_non, isn_bl, isn_int, isn_str, isn_ref, isn_tup, isn_rol, isn_obj, rdEqG, rdIx_tup, rdIx_rol, rdIx_put, rdSet, rdLen_tup, rdLen_rol, rdLen_str, rdLen_put, rdInt1, rdInt, rdInt2, rdAppend, rdExt, rdPopAt, rdMaxL, rdMinL, rdListV, rdIsB, isBlV, rdStrI, rdIntS, dFrz, dFld, insOf_put, dMeth, lstOf_rol, lstOf_put, seqOf_tup, seqOf_rol, seqOf_put, frz_tup, frz_rol, frz_int, frz_bl, frz_non, frz_str, frz_obj, startN, wipeD, List.map_cons, List.map_nil, List.length_cons, List.length_nil, Nat.zero_add, Nat.sub_self, Nat.reduceAdd, Nat.reduceSub, List.replicate_succ, List.replicate_zero, List.cons_append, List.nil_append, List.append_nil, List.getElem?_cons_zero, List.getElem?_cons_succ, List.set_cons_zero, List.set_cons_succ, Option.some.injEq, exists_eq_left', DEnds.xd, atI_0, atI_1, atI_2, atI_3, atI_4, atI_5, atI_6, atI_7, ixN_50, ixN_51, ixN_52, ixN_53, ixN_54, ixN_30, ixN_31, ixN_32, put_same, put_put, true_and, and_true, decide_true, decide_false, Bool.not_true, Bool.not_false, Bool.false_eq_true, if_true, if_false, decide_eq_true_eq, Bool.not_eq_true', decide_eq_false_iff_not, mem_one, ex_one, and_self]
    obtain rfl : x = .tup xs := by
      rcases valOf_i hx hpl with e1 | ⟨a, xs, rfl, e1, e2⟩
      · exact e1
      · cases e2
    obtain rfl : y = .tup xs := by
      rcases valOf_i hy hpl with e1 | ⟨a, xs, rfl, e1, e2⟩
      · exact e1
      · cases e2
    unfold iZipD
    simp only [dSeq, dAsg, dRet, dRetN, dDrop, dRaise, dBreak, dCont, dPar, dAug, dFor, dNext, dSetF, dAugF, dRaiseF, dIfS, dTest, dOp, dVar, dC, dCB, dCons, dNil, dCall, dAndV, dOrV, dNotV, dAndT, dOrT, dNotT, dIf, dTup, dLst, dLstV, dSl, dSlV, rdSlV, oSome, oNone, dNeg, gN, gT, gConsD, gNilD, gSubD, gFldD, dChain, dLc, dBM, isLst, iSeqD, iR1, iR2, iR3, dYes, rdAddV, rdMulV, rdSub, rdDiv, rdMod, rdPow, rdIAdd, rdCmp, rdIsN, isn_non, isn_bl, isn_int, isn_str, isn_ref, isn_tup, isn_rol, isn_obj, rdEqG, rdIx_tup, rdIx_rol, rdIx_put, rdSet, rdLen_tup, rdLen_rol, rdLen_str, rdLen_put, rdInt1, rdInt, rdInt2, rdAppend, rdExt, rdPopAt, rdMaxL, rdMinL, rdListV, rdIsB, isBlV, rdStrI, rdIntS, dFrz, dFld, insOf_put, dMeth, lstOf_rol, lstOf_put, seqOf_tup, seqOf_rol, seqOf_put, frz_tup, frz_rol, frz_int, frz_bl, frz_non, frz_str, frz_obj, startN, wipeD, List.map_cons, List.map_nil, List.length_cons, List.length_nil, Nat.zero_add, Nat.sub_self, Nat.reduceAdd, Nat.reduceSub, List.replicate_succ, List.replicate_zero, List.cons_append, List.nil_append, List.append_nil, List.getElem?_cons_zero, List.getElem?_cons_succ, List.set_cons_zero, List.set_cons_succ, Option.some.injEq, exists_eq_left', DEnds.xd, atI_0, atI_1, atI_2, atI_3, atI_4, atI_5, atI_6, atI_7, ixN_50, ixN_51, ixN_52, ixN_53, ixN_54, ixN_30, ixN_31, ixN_32, put_same, put_put, true_and, and_true, decide_true, decide_false, Bool.not_true, Bool.not_false, Bool.false_eq_true, if_true, if_false, decide_eq_true_eq, Bool.not_eq_true', decide_eq_false_iff_not, mem_one, ex_one, and_self]
    refine lcV_pure (fun _ => Dv.bl true) (by rw [VD.pairs_len]; have := hp.1; omega) (fun _ _ _ => trivial) (items xs hp.2) ?_
    rw [fin]
    refine all_rol ?_
    rw [show (List.replicate (pairs xs xs).length true).all id = true by simp]
    exact h
  | rol xs =>
    refine iteT ?_
    refine isi_tuple (known_val hx hpl) (isi_tuple (known_val hy hpl) ?_)
    rw [x2, y2]
    unfold rdNe rdEqG
    dsimp only
    rw [decide_eq_true rfl]
    refine iteF ⟨sl2, isi_tl (known_val hx hpl) ?_⟩
    rw [x1]
    dsimp only
    rw [if_neg (by simp [isSeq])]
    refine len_val (.inr hx) (len_val (.inr hy) ?_)
    simp only [dSeq, dAsg, dRet, dRetN, dDrop, dRaise, dBreak, dCont, dPar, dAug, dFor, dNext, dSetF, dAugF, dRaiseF, dIfS, dTest, dOp, dVar, dC, dCB, dCons, dNil, dCall, dAndV, dOrV, dNotV, dAndT, dOrT, dNotT, dIf, dTup, dLst, dLstV, dSl, dSlV, rdSlV, oSome, oNone, dNeg, gN, gT, gConsD, gNilD, gSubD, gFldD, dChain, dLc, dBM, isLst, iSeqD, iR1, iR2, iR3, dYes, rdAddV, rdMulV, rdSub, rdDiv, rdMod, rdPow, rdIAdd, rdCmp, rdIsN, isn_non, isn_bl, isn_int, isn_str, isn_ref, isn_tup, isn_rol, isn_obj, rdEqG, rdIx_tup, rdIx_rol, rdIx_put, rdSet, rdLen_tup, rdLen_rol, rdLen_str, rdLen_put, rdInt1, rdInt, rdInt2, rdAppend, rdExt, rdPopAt, rdMaxL, rdMinL, rdListV, rdIsB, isBlV, rdStrI, rdIntS, dFrz, dFld, insOf_put, dMeth, lstOf_rol, lstOf_put, seqOf_tup, seqOf_rol, seqOf_put, frz_tup, frz_rol, frz_int, frz_bl, frz_non, frz_str, frz_obj, startN, wipeD, List.map_cons, List.map_nil, List.length_cons, List.length_nil, Nat.zero_add, Nat.sub_self, Nat.reduceAdd, Nat.reduceSub, List.replicate_succ, List.replicate_zero, List.cons_append, List.nil_append, List.append_nil, List.getElem?_cons_zero, List.getElem?_cons_succ, List.set_cons_zero, List.set_cons_succ, Option.some.injEq, exists_eq_left', DEnds.xd, atI_0, atI_1, atI_2, atI_3, atI_4, atI_5, atI_6, atI_7, ixN_50, ixN_51, ixN_52, ixN_53, ixN_54, ixN_30, ixN_31, ixN_32, put_same, put_put, true_and, and_true, decide_true, decide_false, Bool.not_true, Bool.not_false, Bool.false_eq_true, if_true, if_false, decide_eq_true_eq, Bool.not_eq_true', decide_eq_false_iff_not, mem_one, ex_one, and_self]
    unfold iZipD
    simp only [dSeq, dAsg, dRet, dRetN, dDrop, dRaise, dBreak, dCont, dPar, dAug, dFor, dNext, dSetF, dAugF, dRaiseF, dIfS, dTest, dOp, dVar, dC, dCB, dCons, dNil, dCall, dAndV, dOrV, dNotV, dAndT, dOrT, dNotT, dIf, dTup, dLst, dLstV, dSl, dSlV, rdSlV, oSome, oNone, dNeg, gN, gT, gConsD, gNilD, gSubD, gFldD, dChain, dLc, dBM, isLst, iSeqD, iR1, iR2, iR3, dYes, rdAddV, rdMulV, rdSub, rdDiv, rdMod, rdPow, rdIAdd, rdCmp, rdIsN, isn_non, isn_bl, isn_int, isn_str, isn_ref, isn_tup, isn_rol, isn_obj, rdEqG, rdIx_tup, rdIx_rol, rdIx_put, rdSet, rdLen_tup, rdLen_rol, rdLen_str, rdLen_put, rdInt1, rdInt, rdInt2, rdAppend, rdExt, rdPopAt, rdMaxL, rdMinL, rdListV, rdIsB, isBlV, rdStrI, rdIntS, dFrz, dFld, insOf_put, dMeth, lstOf_rol, lstOf_put, seqOf_tup, seqOf_rol, seqOf_put, frz_tup, frz_rol, frz_int, frz_bl, frz_non, frz_str, frz_obj, startN, wipeD, List.map_cons, List.map_nil, List.length_cons, List.length_nil, Nat.zero_add, Nat.sub_self, Nat.reduceAdd, Nat.reduceSub, List.replicate_succ, List.replicate_zero, List.cons_append, List.nil_append, List.append_nil, List.getElem?_cons_zero, List.getElem?_cons_succ, List.set_cons_zero, List.set_cons_succ, Option.some.injEq, exists_eq_left', DEnds.xd, atI_0, atI_1, atI_2, atI_3, atI_4, atI_5, atI_6, atI_7, ixN_50, ixN_51, ixN_52, ixN_53, ixN_54, ixN_30, ixN_31, ixN_32, put_same, put_put, true_and, and_true, decide_true, decide_false, Bool.not_true, Bool.not_false, Bool.false_eq_true, if_true, if_false, decide_eq_true_eq, Bool.not_eq_true', decide_eq_false_iff_not, mem_one, ex_one, and_self]
    have go : ∀ R : List Dv → (Sto → Prop) → Sto → Prop, R (pairs xs xs) (fun T => isL x T xs ∧ isL y T xs) S → (match [x, y] with
      | [.tup xs, .tup ys] => R (pairs xs ys) (fun _ => True) S
      | [x, y] => lstOf x S fun xs => lstOf y S fun ys => R (pairs xs ys) (fun T => isL x T xs ∧ isL y T ys) S
      | _ => False) := by
      intro R r
      split
      · rename_i e
        cases e
        cases hx
      · rename_i e
        cases e
        exact lstOf_val hx (lstOf_val hy r)
      · rename_i e1 e2; exact (e2 _ _ rfl).elim
    refine go _ ?_
    refine lcV_pure (fun _ => Dv.bl true) (by rw [VD.pairs_len]; have := hp.1; omega) (fun p m hp => ⟨isL_val hx (Sub.new hp), isL_val hy (Sub.new hp)⟩) (items xs hp.2) ?_
    rw [fin]
    refine all_rol ?_
    rw [show (List.replicate (pairs xs xs).length true).all id = true by simp]
    exact h
  | non => exact leaf rfl
  | bl b => exact leaf rfl
  | int b => exact leaf rfl
  | str b => exact leaf rfl
  | _ => exact hp.elim
end Lw

--CLS Reader
namespace Lw
open PySem PySem.Spec PyProof.Rows L2 VD
/-! ### readers of rows -/
def badX (c : Addr) (pl : Int) (S : Sto) (X : XD) : Prop := ∀ d, S d = none → X (.ref c) (some d) (put S d (.xd [(Str.ofString "place", .int pl)]))
def sp_taken (A : Ad) : SpD := fun ds S Q X => ∃ (xs : List Int) (i : Nat), ds = [.tup (List.map Dv.int xs), .int i] ∧ rowOk xs ∧ i ≤ xs.length ∧ match readO xs i with
  | none => badX A.BadRow i S X
  | some (v, b) => Q (.tup [.int v, .int b]) S
theorem len_taken (A : Ad) : ∀ ds S Q X, sp_taken A ds S Q X → ds.length = 2 := by rintro _ _ _ _ ⟨_, _, rfl, _⟩; rfl
def r_taken (A : Ad) : DS := (dSeq (dAsg (dCall (sp_number_at A) (dCons (dVar 0) (dCons (dVar 1) dNil))) (gN 2))
    (dSeq (dIfS (dTest (dOp (rdIsN fun b => b) (dVar 2) (dC .non))) (dRaiseF (.ref A.BadRow) (Str.ofString "place") (dCons (dVar 1) dNil)) dNext)
    (dRet (dVar 2))))
theorem rd_taken (A : Ad) : Rd (r_taken A) 3 (sp_taken A) := by
  rintro ds S Q X ⟨xs, i, rfl, hr, hi, h⟩
  unfold r_taken
  simp only [dSeq, dAsg, dRet, dRetN, dDrop, dRaise, dBreak, dCont, dPar, dAug, dFor, dNext, dSetF, dAugF, dRaiseF, dIfS, dTest, dOp, dVar, dC, dCB, dCons, dNil, dCall, dAndV, dOrV, dNotV, dAndT, dOrT, dNotT, dIf, dTup, dLst, dLstV, dSl, dSlV, rdSlV, oSome, oNone, dNeg, gN, gT, gConsD, gNilD, gSubD, gFldD, dChain, dLc, dBM, isLst, iSeqD, iR1, iR2, iR3, dYes, rdAddV, rdMulV, rdSub, rdDiv, rdMod, rdPow, rdIAdd, rdCmp, rdIsN, isn_non, isn_bl, isn_int, isn_str, isn_ref, isn_tup, isn_rol, isn_obj, rdEqG, rdIx_tup, rdIx_rol, rdIx_put, rdSet, rdLen_tup, rdLen_rol, rdLen_str, rdLen_put, rdInt1, rdInt, rdInt2, rdAppend, rdExt, rdPopAt, rdMaxL, rdMinL, rdListV, rdIsB, isBlV, rdStrI, rdIntS, dFrz, dFld, insOf_put, dMeth, lstOf_rol, lstOf_put, seqOf_tup, seqOf_rol, seqOf_put, frz_tup, frz_rol, frz_int, frz_bl, frz_non, frz_str, frz_obj, startN, wipeD, List.map_cons, List.map_nil, List.length_cons, List.length_nil, Nat.zero_add, Nat.sub_self, Nat.reduceAdd, Nat.reduceSub, List.replicate_succ, List.replicate_zero, List.cons_append, List.nil_append, List.append_nil, List.getElem?_cons_zero, List.getElem?_cons_succ, List.set_cons_zero, List.set_cons_succ, Option.some.injEq, exists_eq_left', DEnds.xd, atI_0, atI_1, atI_2, atI_3, atI_4, atI_5, atI_6, atI_7, ixN_50, ixN_51, ixN_52, ixN_53, ixN_54, ixN_30, ixN_31, ixN_32, put_same, put_put, true_and, and_true, decide_true, decide_false, Bool.not_true, Bool.not_false, Bool.false_eq_true, if_true, if_false, decide_eq_true_eq, Bool.not_eq_true', decide_eq_false_iff_not, mem_one, ex_one, and_self, i_Reader, l_Reader, h_Reader_next_number, h_Reader_next_integer, h_Reader_next_integers, h_Reader_next_byte, h_Reader_finish, g_Reader_row, p_Reader_row, k_Reader_row, g_Reader_at, p_Reader_at, k_Reader_at, g_Reader_last, p_Reader_last, k_Reader_last]
  refine ⟨xs, i, rfl, hr, hi, ?_⟩
  cases e : readO xs i with
  | none =>
    rw [e] at h
    exact h
  | some p =>
    rw [e] at h
    exact h
def sp_check_place (A : Ad) : SpD := fun ds S Q X => ∃ (xs : List Int) (i : Nat), ds = [.tup (List.map Dv.int xs), .int i] ∧ rowOk xs ∧ i ≤ xs.length ∧ Q .non S
theorem len_check_place (A : Ad) : ∀ ds S Q X, sp_check_place A ds S Q X → ds.length = 2 := by rintro _ _ _ _ ⟨_, _, rfl, _⟩; rfl
def r_check_place (A : Ad) : DS := (dSeq (dDrop (dCall (sp_check_row A) (dCons (dVar 0) dNil)))
    (dIfS (dNotT (dTest (dCall (sp_is_within A) (dCons (dVar 1) (dCons (dC (.int 0)) (dCons (dCB rdLen (dCons (dVar 0) dNil)) dNil)))))) (dRaise (.ref A.NoPlace)) dNext))
theorem rd_check_place (A : Ad) : Rd (r_check_place A) 2 (sp_check_place A) := by
  rintro ds S Q X ⟨xs, i, rfl, hr, hi, h⟩
  unfold r_check_place
  simp only [dSeq, dAsg, dRet, dRetN, dDrop, dRaise, dBreak, dCont, dPar, dAug, dFor, dNext, dSetF, dAugF, dRaiseF, dIfS, dTest, dOp, dVar, dC, dCB, dCons, dNil, dCall, dAndV, dOrV, dNotV, dAndT, dOrT, dNotT, dIf, dTup, dLst, dLstV, dSl, dSlV, rdSlV, oSome, oNone, dNeg, gN, gT, gConsD, gNilD, gSubD, gFldD, dChain, dLc, dBM, isLst, iSeqD, iR1, iR2, iR3, dYes, rdAddV, rdMulV, rdSub, rdDiv, rdMod, rdPow, rdIAdd, rdCmp, rdIsN, isn_non, isn_bl, isn_int, isn_str, isn_ref, isn_tup, isn_rol, isn_obj, rdEqG, rdIx_tup, rdIx_rol, rdIx_put, rdSet, rdLen_tup, rdLen_rol, rdLen_str, rdLen_put, rdInt1, rdInt, rdInt2, rdAppend, rdExt, rdPopAt, rdMaxL, rdMinL, rdListV, rdIsB, isBlV, rdStrI, rdIntS, dFrz, dFld, insOf_put, dMeth, lstOf_rol, lstOf_put, seqOf_tup, seqOf_rol, seqOf_put, frz_tup, frz_rol, frz_int, frz_bl, frz_non, frz_str, frz_obj, startN, wipeD, List.map_cons, List.map_nil, List.length_cons, List.length_nil, Nat.zero_add, Nat.sub_self, Nat.reduceAdd, Nat.reduceSub, List.replicate_succ, List.replicate_zero, List.cons_append, List.nil_append, List.append_nil, List.getElem?_cons_zero, List.getElem?_cons_succ, List.set_cons_zero, List.set_cons_succ, Option.some.injEq, exists_eq_left', DEnds.xd, atI_0, atI_1, atI_2, atI_3, atI_4, atI_5, atI_6, atI_7, ixN_50, ixN_51, ixN_52, ixN_53, ixN_54, ixN_30, ixN_31, ixN_32, put_same, put_put, true_and, and_true, decide_true, decide_false, Bool.not_true, Bool.not_false, Bool.false_eq_true, if_true, if_false, decide_eq_true_eq, Bool.not_eq_true', decide_eq_false_iff_not, mem_one, ex_one, and_self, i_Reader, l_Reader, h_Reader_next_number, h_Reader_next_integer, h_Reader_next_integers, h_Reader_next_byte, h_Reader_finish, g_Reader_row, p_Reader_row, k_Reader_row, g_Reader_at, p_Reader_at, k_Reader_at, g_Reader_last, p_Reader_last, k_Reader_last]
  refine ⟨_, rfl, knL_ints, ?_⟩
  rw [if_pos (isRow_ints hr)]
  refine ⟨_, _, _, rfl, kn_int, ?_⟩
  have e : within (.int i) 0 ((List.map Dv.int xs).length : Int) = true := by rw [within_i, List.length_map]; exact ⟨_, rfl, by omega, by omega⟩
  rw [e]
  dsimp only
  rw [if_neg (by decide)]
  exact h
def rdr (A : Ad) (dx : Addr) (xs : List Int) (at_ last : Dv) : MO := .ins A.Reader dx (o_Reader (.tup (List.map Dv.int xs)) at_ last)
theorem ins_rdr {A : Ad} {x dx : Addr} {xs : List Int} {a l : Dv} {S : Sto} {R : Addr → List Str → List Dv → Prop} : insOf (.ref x) (put S x (rdr A dx xs a l)) R = R A.Reader ((o_Reader (.tup (List.map Dv.int xs)) a l).map (·.1)) ((o_Reader (.tup (List.map Dv.int xs)) a l).map (·.2)) := insOf_put
def sp_Reader_init (A : Ad) : SpD := fun ds S Q _ => ∃ x dx r a, ds = [.ref x, r, a] ∧ S x = some (.ins A.Reader dx []) ∧ Q .non (put S x (.ins A.Reader dx (o_Reader r a a)))
theorem len_Reader_init (A : Ad) : ∀ ds S Q X, sp_Reader_init A ds S Q X → ds.length = 3 := by rintro _ _ _ _ ⟨_, _, _, _, rfl, _⟩; rfl
def r_Reader_init (A : Ad) : DS := (dSeq (dSetF [A.Reader] (Str.ofString "row") (dVar 0) (dVar 1))
    (dSeq (dSetF [A.Reader] (Str.ofString "at") (dVar 0) (dVar 2))
    (dSetF [A.Reader] (Str.ofString "last") (dVar 0) (dVar 2))))
theorem rd_Reader_init (A : Ad) : Rd (r_Reader_init A) 3 (sp_Reader_init A) := by
  rintro ds S Q X ⟨x, dx, r, a, rfl, hx, h⟩
  unfold r_Reader_init
  simp only [dSeq, dAsg, dRet, dRetN, dDrop, dRaise, dBreak, dCont, dPar, dAug, dFor, dNext, dSetF, dAugF, dRaiseF, dIfS, dTest, dOp, dVar, dC, dCB, dCons, dNil, dCall, dAndV, dOrV, dNotV, dAndT, dOrT, dNotT, dIf, dTup, dLst, dLstV, dSl, dSlV, rdSlV, oSome, oNone, dNeg, gN, gT, gConsD, gNilD, gSubD, gFldD, dChain, dLc, dBM, isLst, iSeqD, iR1, iR2, iR3, dYes, rdAddV, rdMulV, rdSub, rdDiv, rdMod, rdPow, rdIAdd, rdCmp, rdIsN, isn_non, isn_bl, isn_int, isn_str, isn_ref, isn_tup, isn_rol, isn_obj, rdEqG, rdIx_tup, rdIx_rol, rdIx_put, rdSet, rdLen_tup, rdLen_rol, rdLen_str, rdLen_put, rdInt1, rdInt, rdInt2, rdAppend, rdExt, rdPopAt, rdMaxL, rdMinL, rdListV, rdIsB, isBlV, rdStrI, rdIntS, dFrz, dFld, insOf_put, dMeth, lstOf_rol, lstOf_put, seqOf_tup, seqOf_rol, seqOf_put, frz_tup, frz_rol, frz_int, frz_bl, frz_non, frz_str, frz_obj, startN, wipeD, List.map_cons, List.map_nil, List.length_cons, List.length_nil, Nat.zero_add, Nat.sub_self, Nat.reduceAdd, Nat.reduceSub, List.replicate_succ, List.replicate_zero, List.cons_append, List.nil_append, List.append_nil, List.getElem?_cons_zero, List.getElem?_cons_succ, List.set_cons_zero, List.set_cons_succ, Option.some.injEq, exists_eq_left', DEnds.xd, atI_0, atI_1, atI_2, atI_3, atI_4, atI_5, atI_6, atI_7, ixN_50, ixN_51, ixN_52, ixN_53, ixN_54, ixN_30, ixN_31, ixN_32, put_same, put_put, true_and, and_true, decide_true, decide_false, Bool.not_true, Bool.not_false, Bool.false_eq_true, if_true, if_false, decide_eq_true_eq, Bool.not_eq_true', decide_eq_false_iff_not, mem_one, ex_one, and_self, i_Reader, l_Reader, h_Reader_next_number, h_Reader_next_integer, h_Reader_next_integers, h_Reader_next_byte, h_Reader_finish, g_Reader_row, p_Reader_row, k_Reader_row, g_Reader_at, p_Reader_at, k_Reader_at, g_Reader_last, p_Reader_last, k_Reader_last, hx, n_Reader_row, n_Reader_at, n_Reader_last]
  exact ⟨by decide, by decide, by decide, h⟩
def sp_Reader (A : Ad) : SpD := fun ds S Q _ => ∃ xs i, ds = [.tup (List.map Dv.int xs), .int i] ∧ ∀ x dx, S x = none → Q (.ref x) (put S x (rdr A dx xs (.int i) (.int i)))
theorem mk_Reader (A : Ad) : ∀ vs S Q X, sp_Reader A vs S Q X → ∀ x dx, S x = none → S dx = none → dx ≠ x → sp_Reader_init A (.ref x :: vs) (put S x (.ins A.Reader dx [])) (fun v S2 => v = .non ∧ Q (.ref x) S2) X := by
  rintro _ S Q X ⟨xs, i, rfl, h⟩ x dx hx hd ne
  refine ⟨x, dx, _, _, rfl, put_same, rfl, ?_⟩
  rw [put_put]
  exact h x dx hx
def sp_Reader_next_number (A : Ad) : SpD := fun ds S Q X => ∃ x dx xs l, ∃ i : Nat, ds = [.ref x] ∧ S x = some (rdr A dx xs (.int i) l) ∧ rowOk xs ∧ i ≤ xs.length ∧ match readO xs i with
  | none => badX A.BadRow i (put S x (rdr A dx xs (.int i) (.int i))) X
  | some (v, b) => Q (.int v) (put S x (rdr A dx xs (.int b) (.int i)))
theorem len_Reader_next_number (A : Ad) : ∀ ds S Q X, sp_Reader_next_number A ds S Q X → ds.length = 1 := by rintro _ _ _ _ ⟨_, _, _, _, _, rfl, _⟩; rfl
def r_Reader_next_number (A : Ad) : DS := (dSeq (dSetF [A.Reader] (Str.ofString "last") (dVar 0) (dFld [A.Reader] (Str.ofString "at") (dVar 0)))
    (dSeq (dAsg (dCall (sp_taken A) (dCons (dFld [A.Reader] (Str.ofString "row") (dVar 0)) (dCons (dFld [A.Reader] (Str.ofString "at") (dVar 0)) dNil))) (gT 2 (gConsD (gN 1) (gConsD (gFldD [A.Reader] (Str.ofString "at") (dVar 0)) gNilD))))
    (dRet (dVar 1))))
theorem rd_Reader_next_number (A : Ad) : Rd (r_Reader_next_number A) 2 (sp_Reader_next_number A) := by
  rintro ds S Q X ⟨x, dx, xs, l, i, rfl, hx, hr, hi, h⟩
  unfold rdr at *
  unfold r_Reader_next_number
  simp only [dSeq, dAsg, dRet, dRetN, dDrop, dRaise, dBreak, dCont, dPar, dAug, dFor, dNext, dSetF, dAugF, dRaiseF, dIfS, dTest, dOp, dVar, dC, dCB, dCons, dNil, dCall, dAndV, dOrV, dNotV, dAndT, dOrT, dNotT, dIf, dTup, dLst, dLstV, dSl, dSlV, rdSlV, oSome, oNone, dNeg, gN, gT, gConsD, gNilD, gSubD, gFldD, dChain, dLc, dBM, isLst, iSeqD, iR1, iR2, iR3, dYes, rdAddV, rdMulV, rdSub, rdDiv, rdMod, rdPow, rdIAdd, rdCmp, rdIsN, isn_non, isn_bl, isn_int, isn_str, isn_ref, isn_tup, isn_rol, isn_obj, rdEqG, rdIx_tup, rdIx_rol, rdIx_put, rdSet, rdLen_tup, rdLen_rol, rdLen_str, rdLen_put, rdInt1, rdInt, rdInt2, rdAppend, rdExt, rdPopAt, rdMaxL, rdMinL, rdListV, rdIsB, isBlV, rdStrI, rdIntS, dFrz, dFld, insOf_put, dMeth, lstOf_rol, lstOf_put, seqOf_tup, seqOf_rol, seqOf_put, frz_tup, frz_rol, frz_int, frz_bl, frz_non, frz_str, frz_obj, startN, wipeD, List.map_cons, List.map_nil, List.length_cons, List.length_nil, Nat.zero_add, Nat.sub_self, Nat.reduceAdd, Nat.reduceSub, List.replicate_succ, List.replicate_zero, List.cons_append, List.nil_append, List.append_nil, List.getElem?_cons_zero, List.getElem?_cons_succ, List.set_cons_zero, List.set_cons_succ, Option.some.injEq, exists_eq_left', DEnds.xd, atI_0, atI_1, atI_2, atI_3, atI_4, atI_5, atI_6, atI_7, ixN_50, ixN_51, ixN_52, ixN_53, ixN_54, ixN_30, ixN_31, ixN_32, put_same, put_put, true_and, and_true, decide_true, decide_false, Bool.not_true, Bool.not_false, Bool.false_eq_true, if_true, if_false, decide_eq_true_eq, Bool.not_eq_true', decide_eq_false_iff_not, mem_one, ex_one, and_self, i_Reader, l_Reader, h_Reader_next_number, h_Reader_next_integer, h_Reader_next_integers, h_Reader_next_byte, h_Reader_finish, g_Reader_row, p_Reader_row, k_Reader_row, g_Reader_at, p_Reader_at, k_Reader_at, g_Reader_last, p_Reader_last, k_Reader_last, hx, insOf_ref hx]
  refine ⟨xs, i, rfl, hr, hi, ?_⟩
  cases e : readO xs i with
  | none =>
    rw [e] at h
    exact h
  | some p =>
    obtain ⟨v, b⟩ := p
    rw [e] at h
    dsimp only
    simp only [dSeq, dAsg, dRet, dRetN, dDrop, dRaise, dBreak, dCont, dPar, dAug, dFor, dNext, dSetF, dAugF, dRaiseF, dIfS, dTest, dOp, dVar, dC, dCB, dCons, dNil, dCall, dAndV, dOrV, dNotV, dAndT, dOrT, dNotT, dIf, dTup, dLst, dLstV, dSl, dSlV, rdSlV, oSome, oNone, dNeg, gN, gT, gConsD, gNilD, gSubD, gFldD, dChain, dLc, dBM, isLst, iSeqD, iR1, iR2, iR3, dYes, rdAddV, rdMulV, rdSub, rdDiv, rdMod, rdPow, rdIAdd, rdCmp, rdIsN, isn_non, isn_bl, isn_int, isn_str, isn_ref, isn_tup, isn_rol, isn_obj, rdEqG, rdIx_tup, rdIx_rol, rdIx_put, rdSet, rdLen_tup, rdLen_rol, rdLen_str, rdLen_put, rdInt1, rdInt, rdInt2, rdAppend, rdExt, rdPopAt, rdMaxL, rdMinL, rdListV, rdIsB, isBlV, rdStrI, rdIntS, dFrz, dFld, insOf_put, dMeth, lstOf_rol, lstOf_put, seqOf_tup, seqOf_rol, seqOf_put, frz_tup, frz_rol, frz_int, frz_bl, frz_non, frz_str, frz_obj, startN, wipeD, List.map_cons, List.map_nil, List.length_cons, List.length_nil, Nat.zero_add, Nat.sub_self, Nat.reduceAdd, Nat.reduceSub, List.replicate_succ, List.replicate_zero, List.cons_append, List.nil_append, List.append_nil, List.getElem?_cons_zero, List.getElem?_cons_succ, List.set_cons_zero, List.set_cons_succ, Option.some.injEq, exists_eq_left', DEnds.xd, atI_0, atI_1, atI_2, atI_3, atI_4, atI_5, atI_6, atI_7, ixN_50, ixN_51, ixN_52, ixN_53, ixN_54, ixN_30, ixN_31, ixN_32, put_same, put_put, true_and, and_true, decide_true, decide_false, Bool.not_true, Bool.not_false, Bool.false_eq_true, if_true, if_false, decide_eq_true_eq, Bool.not_eq_true', decide_eq_false_iff_not, mem_one, ex_one, and_self, i_Reader, l_Reader, h_Reader_next_number, h_Reader_next_integer, h_Reader_next_integers, h_Reader_next_byte, h_Reader_finish, g_Reader_row, p_Reader_row, k_Reader_row, g_Reader_at, p_Reader_at, k_Reader_at, g_Reader_last, p_Reader_last, k_Reader_last]
    exact h
def sp_Reader_next_byte (A : Ad) : SpD := fun ds S Q X => ∃ x dx xs l, ∃ i : Nat, ds = [.ref x] ∧ S x = some (rdr A dx xs (.int i) l) ∧ i ≤ xs.length ∧ match xs[i]? with
  | none => badX A.BadRow i (put S x (rdr A dx xs (.int i) (.int i))) X
  | some v => Q (.int v) (put S x (rdr A dx xs (.int (i + 1 : Nat)) (.int i)))
theorem len_Reader_next_byte (A : Ad) : ∀ ds S Q X, sp_Reader_next_byte A ds S Q X → ds.length = 1 := by rintro _ _ _ _ ⟨_, _, _, _, _, rfl, _⟩; rfl
def r_Reader_next_byte (A : Ad) : DS := (dSeq (dSetF [A.Reader] (Str.ofString "last") (dVar 0) (dFld [A.Reader] (Str.ofString "at") (dVar 0)))
    (dSeq (dIfS (dTest (dOp rdGe (dFld [A.Reader] (Str.ofString "at") (dVar 0)) (dCB rdLen (dCons (dFld [A.Reader] (Str.ofString "row") (dVar 0)) dNil)))) (dRaiseF (.ref A.BadRow) (Str.ofString "place") (dCons (dFld [A.Reader] (Str.ofString "at") (dVar 0)) dNil)) dNext)
    (dSeq (dAugF [A.Reader] (Str.ofString "at") rdIAdd (dVar 0) (dC (.int 1)))
    (dRet (dOp rdIx (dFld [A.Reader] (Str.ofString "row") (dVar 0)) (dOp rdSub (dFld [A.Reader] (Str.ofString "at") (dVar 0)) (dC (.int 1))))))))
theorem rd_Reader_next_byte (A : Ad) : Rd (r_Reader_next_byte A) 1 (sp_Reader_next_byte A) := by
  rintro ds S Q X ⟨x, dx, xs, l, i, rfl, hx, hi, h⟩
  unfold rdr at *
  unfold r_Reader_next_byte
  simp only [dSeq, dAsg, dRet, dRetN, dDrop, dRaise, dBreak, dCont, dPar, dAug, dFor, dNext, dSetF, dAugF, dRaiseF, dIfS, dTest, dOp, dVar, dC, dCB, dCons, dNil, dCall, dAndV, dOrV, dNotV, dAndT, dOrT, dNotT, dIf, dTup, dLst, dLstV, dSl, dSlV, rdSlV, oSome, oNone, dNeg, gN, gT, gConsD, gNilD, gSubD, gFldD, dChain, dLc, dBM, isLst, iSeqD, iR1, iR2, iR3, dYes, rdAddV, rdMulV, rdSub, rdDiv, rdMod, rdPow, rdIAdd, rdCmp, rdIsN, isn_non, isn_bl, isn_int, isn_str, isn_ref, isn_tup, isn_rol, isn_obj, rdEqG, rdIx_tup, rdIx_rol, rdIx_put, rdSet, rdLen_tup, rdLen_rol, rdLen_str, rdLen_put, rdInt1, rdInt, rdInt2, rdAppend, rdExt, rdPopAt, rdMaxL, rdMinL, rdListV, rdIsB, isBlV, rdStrI, rdIntS, dFrz, dFld, insOf_put, dMeth, lstOf_rol, lstOf_put, seqOf_tup, seqOf_rol, seqOf_put, frz_tup, frz_rol, frz_int, frz_bl, frz_non, frz_str, frz_obj, startN, wipeD, List.map_cons, List.map_nil, List.length_cons, List.length_nil, Nat.zero_add, Nat.sub_self, Nat.reduceAdd, Nat.reduceSub, List.replicate_succ, List.replicate_zero, List.cons_append, List.nil_append, List.append_nil, List.getElem?_cons_zero, List.getElem?_cons_succ, List.set_cons_zero, List.set_cons_succ, Option.some.injEq, exists_eq_left', DEnds.xd, atI_0, atI_1, atI_2, atI_3, atI_4, atI_5, atI_6, atI_7, ixN_50, ixN_51, ixN_52, ixN_53, ixN_54, ixN_30, ixN_31, ixN_32, put_same, put_put, true_and, and_true, decide_true, decide_false, Bool.not_true, Bool.not_false, Bool.false_eq_true, if_true, if_false, decide_eq_true_eq, Bool.not_eq_true', decide_eq_false_iff_not, mem_one, ex_one, and_self, i_Reader, l_Reader, h_Reader_next_number, h_Reader_next_integer, h_Reader_next_integers, h_Reader_next_byte, h_Reader_finish, g_Reader_row, p_Reader_row, k_Reader_row, g_Reader_at, p_Reader_at, k_Reader_at, g_Reader_last, p_Reader_last, k_Reader_last, hx, insOf_ref hx]
  by_cases hl : i < xs.length
  · rw [if_neg (by rw [List.length_map]; omega)]
    rw [List.getElem?_eq_getElem hl] at h
    have e1 : atI (List.map Dv.int xs) ((i : Int) + 1 - 1) = some (.int xs[i]) := by
      rw [atI_nn (by omega), show ((i : Int) + 1 - 1).toNat = i by omega, List.getElem?_map, List.getElem?_eq_getElem hl]; rfl
    exact ⟨_, e1, h⟩
  · rw [if_pos (by rw [List.length_map]; omega)]
    rw [List.getElem?_eq_none (by omega)] at h
    exact h
end Lw

namespace Lw
open PySem PySem.Spec PyProof.Rows L2 VD
def sp__law_whole (A : Ad) : SpD := sp_figures_of A
theorem len__law_whole (A : Ad) : ∀ ds S Q X, sp__law_whole A ds S Q X → ds.length = 1 := len_figures_of A
def r__law_whole (A : Ad) : DS := (dSeq (dAsg (dLst dNil) (gN 1))
    (dSeq (dFor (iR1 (dCons (dC (.int 10)) dNil)) (gN 2) (dSeq (dIfS (dTest (dOp rdLt (dVar 0) (dC (.int 128)))) dBreak dNext)
    (dSeq (dDrop (dBM rdAppend (dVar 1) (dCons (dOp rdAddV (dOp rdMod (dCB rdInt (dCons (dVar 0) dNil)) (dC (.int 128))) (dC (.int 128))) dNil)))
    (dAsg (dOp rdDiv (dVar 0) (dC (.int 128))) (gN 0)))))
    (dRet (dCB rdTuple (dCons (dOp rdAddV (dVar 1) (dLstV (dCons (dVar 0) dNil))) dNil)))))
theorem rd__law_whole (A : Ad) : RdF (r__law_whole A) 3 (sp__law_whole A) := by
  rintro ds S Q X ⟨n, rfl, h0, h1, h⟩
  unfold r__law_whole
  unfold dFor
  simp only [dSeq, dAsg, dRet, dRetN, dDrop, dRaise, dBreak, dCont, dPar, dAug, dFor, dNext, dSetF, dAugF, dRaiseF, dIfS, dTest, dOp, dVar, dC, dCB, dCons, dNil, dCall, dAndV, dOrV, dNotV, dAndT, dOrT, dNotT, dIf, dTup, dLst, dLstV, dSl, dSlV, rdSlV, oSome, oNone, dNeg, gN, gT, gConsD, gNilD, gSubD, gFldD, dChain, dLc, dBM, isLst, iSeqD, iR1, iR2, iR3, dYes, rdAddV, rdMulV, rdSub, rdDiv, rdMod, rdPow, rdIAdd, rdCmp, rdIsN, isn_non, isn_bl, isn_int, isn_str, isn_ref, isn_tup, isn_rol, isn_obj, rdEqG, rdIx_tup, rdIx_rol, rdIx_put, rdSet, rdLen_tup, rdLen_rol, rdLen_str, rdLen_put, rdInt1, rdInt, rdInt2, rdAppend, rdExt, rdPopAt, rdMaxL, rdMinL, rdListV, rdIsB, isBlV, rdStrI, rdIntS, dFrz, dFld, insOf_put, dMeth, lstOf_rol, lstOf_put, seqOf_tup, seqOf_rol, seqOf_put, frz_tup, frz_rol, frz_int, frz_bl, frz_non, frz_str, frz_obj, startN, wipeD, List.map_cons, List.map_nil, List.length_cons, List.length_nil, Nat.zero_add, Nat.sub_self, Nat.reduceAdd, Nat.reduceSub, List.replicate_succ, List.replicate_zero, List.cons_append, List.nil_append, List.append_nil, List.getElem?_cons_zero, List.getElem?_cons_succ, List.set_cons_zero, List.set_cons_succ, Option.some.injEq, exists_eq_left', DEnds.xd, atI_0, atI_1, atI_2, atI_3, atI_4, atI_5, atI_6, atI_7, ixN_50, ixN_51, ixN_52, ixN_53, ixN_54, ixN_30, ixN_31, ixN_32, put_same, put_put, true_and, and_true, decide_true, decide_false, Bool.not_true, Bool.not_false, Bool.false_eq_true, if_true, if_false, decide_eq_true_eq, Bool.not_eq_true', decide_eq_false_iff_not, mem_one, ex_one, and_self]
  refine ⟨by rw [sizeLine_eq]; decide, fun p hp => ?_⟩
  have last : ∀ (pre : List Int) (l : Int) (y : Option Dv) (T : Sto), T = put S p (.lst (List.map Dv.int pre)) → pre.length ≤ 9 → pre ++ [l] = figs n →
      dRet (dCB rdTuple (dCons (dOp rdAddV (dVar 1) (dLstV (dCons (dVar 0) dNil))) dNil)) { nx := fun _ S' => ∃ T, VD.Sub T S' ∧ Q .non T, rt := fun d S' => ∃ T, VD.Sub T S' ∧ Q d T, ex := fun c da _ S' => ∃ T, VD.Sub T S' ∧ X c da T } [some (.int l), some (.ref p), y] T := by
    rintro pre l y T rfl hl e
    simp only [dSeq, dAsg, dRet, dRetN, dDrop, dRaise, dBreak, dCont, dPar, dAug, dFor, dNext, dSetF, dAugF, dRaiseF, dIfS, dTest, dOp, dVar, dC, dCB, dCons, dNil, dCall, dAndV, dOrV, dNotV, dAndT, dOrT, dNotT, dIf, dTup, dLst, dLstV, dSl, dSlV, rdSlV, oSome, oNone, dNeg, gN, gT, gConsD, gNilD, gSubD, gFldD, dChain, dLc, dBM, isLst, iSeqD, iR1, iR2, iR3, dYes, rdAddV, rdMulV, rdSub, rdDiv, rdMod, rdPow, rdIAdd, rdCmp, rdIsN, isn_non, isn_bl, isn_int, isn_str, isn_ref, isn_tup, isn_rol, isn_obj, rdEqG, rdIx_tup, rdIx_rol, rdIx_put, rdSet, rdLen_tup, rdLen_rol, rdLen_str, rdLen_put, rdInt1, rdInt, rdInt2, rdAppend, rdExt, rdPopAt, rdMaxL, rdMinL, rdListV, rdIsB, isBlV, rdStrI, rdIntS, dFrz, dFld, insOf_put, dMeth, lstOf_rol, lstOf_put, seqOf_tup, seqOf_rol, seqOf_put, frz_tup, frz_rol, frz_int, frz_bl, frz_non, frz_str, frz_obj, startN, wipeD, List.map_cons, List.map_nil, List.length_cons, List.length_nil, Nat.zero_add, Nat.sub_self, Nat.reduceAdd, Nat.reduceSub, List.replicate_succ, List.replicate_zero, List.cons_append, List.nil_append, List.append_nil, List.getElem?_cons_zero, List.getElem?_cons_succ, List.set_cons_zero, List.set_cons_succ, Option.some.injEq, exists_eq_left', DEnds.xd, atI_0, atI_1, atI_2, atI_3, atI_4, atI_5, atI_6, atI_7, ixN_50, ixN_51, ixN_52, ixN_53, ixN_54, ixN_30, ixN_31, ixN_32, put_same, put_put, true_and, and_true, decide_true, decide_false, Bool.not_true, Bool.not_false, Bool.false_eq_true, if_true, if_false, decide_eq_true_eq, Bool.not_eq_true', decide_eq_false_iff_not, mem_one, ex_one, and_self]
    refine ⟨slK, by rw [sizeLine_eq, List.length_map]; simp; omega, ?_⟩
    refine tup_rol ⟨S, Sub.new hp, ?_⟩
    rw [show [Dv.int l] = List.map Dv.int [l] from rfl, ← List.map_append, e]
    exact h
  refine for_go (fun i ρ T => ∃ (pre : List Int) (l : Int) (y : Option Dv), i ≤ 9 ∧ T = put S p (.lst (List.map Dv.int pre)) ∧ 0 ≤ l ∧ l < 128 ^ (9 - i + 1) ∧ pre.length = i ∧ pre ++ figF (9 - i) l = figs n ∧ ρ = [some (.int l), some (.ref p), y]) ⟨[], n, none, by decide, rfl, h0, by show n < 128 ^ (9 + 1); rw [pow_top]; omega, rfl, rfl, rfl⟩ (fun _ _ _ _ _ => trivial) (fun i x ρ T hx hw => ?_) fun ρ T hw => ?_
  · obtain ⟨pre, l, y, hi, rfl, hl0, hl1, hpm, hpre, rfl⟩ := hw
    have e0 : l < 128 → figF (9 - i) l = [l] := fun hl => by
      cases 9 - i with
      | zero => rfl
      | succ m => unfold figF; rw [if_pos hl]
    simp only [dSeq, dIfS, dTest, dOp, dVar, dC, gN, dBreak, dNext, rdCmp, rdLt, List.set_cons_succ, List.set_cons_zero, List.getElem?_cons_zero, Option.some.injEq, exists_eq_left', decide_eq_true_eq]
    by_cases hl : l < 128
    · rw [if_pos hl]
      exact last pre l _ _ rfl (by omega) (by rw [← e0 hl]; exact hpre)
    · rw [if_neg hl]
      simp only [dSeq, dAsg, dRet, dRetN, dDrop, dRaise, dBreak, dCont, dPar, dAug, dFor, dNext, dSetF, dAugF, dRaiseF, dIfS, dTest, dOp, dVar, dC, dCB, dCons, dNil, dCall, dAndV, dOrV, dNotV, dAndT, dOrT, dNotT, dIf, dTup, dLst, dLstV, dSl, dSlV, rdSlV, oSome, oNone, dNeg, gN, gT, gConsD, gNilD, gSubD, gFldD, dChain, dLc, dBM, isLst, iSeqD, iR1, iR2, iR3, dYes, rdAddV, rdMulV, rdSub, rdDiv, rdMod, rdPow, rdIAdd, rdCmp, rdIsN, isn_non, isn_bl, isn_int, isn_str, isn_ref, isn_tup, isn_rol, isn_obj, rdEqG, rdIx_tup, rdIx_rol, rdIx_put, rdSet, rdLen_tup, rdLen_rol, rdLen_str, rdLen_put, rdInt1, rdInt, rdInt2, rdAppend, rdExt, rdPopAt, rdMaxL, rdMinL, rdListV, rdIsB, isBlV, rdStrI, rdIntS, dFrz, dFld, insOf_put, dMeth, lstOf_rol, lstOf_put, seqOf_tup, seqOf_rol, seqOf_put, frz_tup, frz_rol, frz_int, frz_bl, frz_non, frz_str, frz_obj, startN, wipeD, List.map_cons, List.map_nil, List.length_cons, List.length_nil, Nat.zero_add, Nat.sub_self, Nat.reduceAdd, Nat.reduceSub, List.replicate_succ, List.replicate_zero, List.cons_append, List.nil_append, List.append_nil, List.getElem?_cons_zero, List.getElem?_cons_succ, List.set_cons_zero, List.set_cons_succ, Option.some.injEq, exists_eq_left', DEnds.xd, atI_0, atI_1, atI_2, atI_3, atI_4, atI_5, atI_6, atI_7, ixN_50, ixN_51, ixN_52, ixN_53, ixN_54, ixN_30, ixN_31, ixN_32, put_same, put_put, true_and, and_true, decide_true, decide_false, Bool.not_true, Bool.not_false, Bool.false_eq_true, if_true, if_false, decide_eq_true_eq, Bool.not_eq_true', decide_eq_false_iff_not, mem_one, ex_one, and_self]
      obtain ⟨m, hm⟩ : ∃ m, 9 - i = m + 1 := by
        refine ⟨9 - i - 1, ?_⟩
        have : i ≠ 9 := fun z => by
          subst z
          simp at hl1
          omega
        omega
      rw [hm] at hl1 hpre
      refine ⟨by decide, by rw [sizeLine_eq, List.length_map]; omega, divp 64 (by decide) (by decide), pre ++ [l % 128 + 128], l / 128, some x, by omega, by rw [List.map_append]; rfl, by omega, ?_, by simp; omega, ?_, rfl⟩
      · rw [show 9 - (i + 1) + 1 = m + 1 by omega]
        rw [pow7] at hl1
        omega
      · rw [show 9 - (i + 1) = m by omega, ← hpre]
        conv => rhs; unfold figF
        rw [if_neg (by omega), List.append_assoc]
        rfl
  · obtain ⟨pre, l, y, hi, _⟩ := hw
    rw [rangeL_len] at hi
    exact absurd hi (by decide)
theorem fnd_here {l : List Int} {j : Nat} {b : Int} (hj : j < 10) (hb : ∀ k, k < j → ∃ b, l[k]? = some b ∧ ¬ b < 128) (e : l[j]? = some b) (h : b < 128) : fnd 10 l = some j := by
  have e1 := fnd_on j (10 - j) l hb
  rw [show 10 - j + j = 10 by omega] at e1
  rw [e1, List.drop_eq_getElem?_toList_append, e]
  obtain ⟨k, hk⟩ : ∃ k, 10 - j = k + 1 := ⟨9 - j, by omega⟩
  rw [hk]
  show (fnd (k + 1) (b :: _)).map (· + j) = some j
  rw [fnd, if_pos h]
  simp
theorem fnd_out {l : List Int} {j : Nat} (hj : j ≤ 10) (hb : ∀ k, k < j → ∃ b, l[k]? = some b ∧ ¬ b < 128) (h : l.length ≤ j ∨ j = 10) : fnd 10 l = none := by
  have e1 := fnd_on j (10 - j) l hb
  rw [show 10 - j + j = 10 by omega] at e1
  rw [e1]
  rcases h with e | e
  · rw [List.drop_of_length_le e]
    cases 10 - j <;> rfl
  · rw [show 10 - j = 0 by omega]
    rfl
theorem val_cons (b : Int) (r : List Int) : val (b :: r) = val r * 128 + b % 128 := by
  show b % 128 + 128 * val r = _
  omega
def sp__law_read (A : Ad) : SpD := sp_number_at A
theorem len__law_read (A : Ad) : ∀ ds S Q X, sp__law_read A ds S Q X → ds.length = 2 := len_number_at A
def r__law_read (A : Ad) : DS := (dSeq (dFor (iR1 (dCons (dC (.int 10)) dNil)) (gN 2) (dSeq (dIfS (dTest (dOp rdGe (dOp rdAddV (dVar 1) (dVar 2)) (dCB rdLen (dCons (dVar 0) dNil)))) (dRet (dC .non)) dNext)
    (dIfS (dTest (dOp rdLt (dOp rdIx (dVar 0) (dOp rdAddV (dVar 1) (dVar 2))) (dC (.int 128)))) (dSeq (dIfS (dAndT (dTest (dOp rdGt (dVar 2) (dC (.int 0)))) (dTest (dOp rdEq (dOp rdIx (dVar 0) (dOp rdAddV (dVar 1) (dVar 2))) (dC (.int 0))))) (dRet (dC .non)) dNext)
    (dSeq (dAsg (dC (.int 0)) (gN 3))
    (dSeq (dFor (iR3 (dCons (dOp rdAddV (dVar 1) (dVar 2)) (dCons (dOp rdSub (dVar 1) (dC (.int 1))) (dCons (dNeg (dC (.int 1))) dNil)))) (gN 4) (dAsg (dOp rdAddV (dOp rdMulV (dVar 3) (dC (.int 128))) (dOp rdMod (dCB rdInt (dCons (dOp rdIx (dVar 0) (dVar 4)) dNil)) (dC (.int 128)))) (gN 3)))
    (dSeq (dIfS (dTest (dOp rdGe (dVar 3) (dOp rdPow (dC (.int 2)) (dC (.int 64))))) (dRet (dC .non)) dNext)
    (dRet (dTup (dCons (dVar 3) (dCons (dOp rdAddV (dOp rdAddV (dVar 1) (dVar 2)) (dC (.int 1))) dNil)))))))) dNext)))
    (dRet (dC .non)))
theorem rd__law_read (A : Ad) : Rd (r__law_read A) 5 (sp__law_read A) := by
  rintro ds S Q X ⟨xs, i0, rfl, hr, hi, h⟩
  unfold r__law_read
  have hr1 := hr.1
  have hget : ∀ j : Nat, (xs.drop i0)[j]? = xs[i0 + j]? := fun j => by rw [List.getElem?_drop]
  have hdl : (xs.drop i0).length = xs.length - i0 := List.length_drop
  have c64 : CPow 2 64 := ⟨by decide, by decide, by decide⟩
  have e64 : (2 : Int) ^ Int.toNat 64 = 18446744073709551616 := by decide
  have atx : ∀ j : Nat, (hlt : i0 + j < xs.length) → atI (List.map Dv.int xs) ((i0 : Int) + (j : Int)) = some (.int xs[i0 + j]) := fun j hlt => by
    rw [atI_nn (by omega), show ((i0 : Int) + (j : Int)).toNat = i0 + j by omega, List.getElem?_map, List.getElem?_eq_getElem hlt]
    rfl
  refine cut_seq (fun ρ T => T = S ∧ readO xs i0 = none ∧ ∃ y2 y3 y4, ρ = [some (.tup (List.map Dv.int xs)), some (.int (i0 : Int)), y2, y3, y4]) (fun N hN => ?_) (fun ρ T hM => ?_)
  · unfold dFor
    simp only [dIfS, dTest, dOp, dVar, dC, dCB, dCons, dNil, dCall, dAndV, dOrV, dNotV, dAndT, dOrT, dNotT, dIf, dTup, dLst, dLstV, dSl, dSlV, rdSlV, oSome, oNone, dNeg, gN, gT, gConsD, gNilD, gSubD, gFldD, dChain, dLc, dBM, isLst, iSeqD, iR1, iR2, iR3, dYes, rdAddV, rdMulV, rdSub, rdDiv, rdMod, rdPow, rdIAdd, rdCmp, rdIsN, isn_non, isn_bl, isn_int, isn_str, isn_ref, isn_tup, isn_rol, isn_obj, rdEqG, rdIx_tup, rdIx_rol, rdIx_put, rdSet, rdLen_tup, rdLen_rol, rdLen_str, rdLen_put, rdInt1, rdInt, rdInt2, rdAppend, rdExt, rdPopAt, rdMaxL, rdMinL, rdListV, rdIsB, isBlV, rdStrI, rdIntS, dFrz, dFld, insOf_put, dMeth, lstOf_rol, lstOf_put, seqOf_tup, seqOf_rol, seqOf_put, frz_tup, frz_rol, frz_int, frz_bl, frz_non, frz_str, frz_obj, startN, wipeD, List.map_cons, List.map_nil, List.length_cons, List.length_nil, Nat.zero_add, Nat.sub_self, Nat.reduceAdd, Nat.reduceSub, List.replicate_succ, List.replicate_zero, List.cons_append, List.nil_append, List.append_nil, List.getElem?_cons_zero, List.getElem?_cons_succ, List.set_cons_zero, List.set_cons_succ, Option.some.injEq, exists_eq_left', DEnds.xd, atI_0, atI_1, atI_2, atI_3, atI_4, atI_5, atI_6, atI_7, ixN_50, ixN_51, ixN_52, ixN_53, ixN_54, ixN_30, ixN_31, ixN_32, put_same, put_put, true_and, and_true, decide_true, decide_false, Bool.not_true, Bool.not_false, Bool.false_eq_true, if_true, if_false, decide_eq_true_eq, Bool.not_eq_true', decide_eq_false_iff_not, mem_one, ex_one, and_self]
    refine for_go (fun j ρ T => T = S ∧ (∀ k, k < j → ∃ b, (xs.drop i0)[k]? = some b ∧ ¬ b < 128) ∧ ∃ y2 y3 y4, ρ = [some (.tup (List.map Dv.int xs)), some (.int (i0 : Int)), y2, y3, y4]) ⟨rfl, fun k hk => by omega, none, none, none, rfl⟩ (fun _ _ _ _ _ => trivial) (fun j x ρ T hx hw => ?_) fun ρ T hw => ?_
    · obtain ⟨rfl, hb, y2, y3, y4, rfl⟩ := hw
      obtain ⟨hj, rfl⟩ := rangeL_mem hx
      have hj10 : j < 10 := hj
      rw [Int.zero_add]
      simp only [dIfS, dTest, dOp, dVar, dC, dCB, dCons, dNil, dCall, dAndV, dOrV, dNotV, dAndT, dOrT, dNotT, dIf, dTup, dLst, dLstV, dSl, dSlV, rdSlV, oSome, oNone, dNeg, gN, gT, gConsD, gNilD, gSubD, gFldD, dChain, dLc, dBM, isLst, iSeqD, iR1, iR2, iR3, dYes, rdAddV, rdMulV, rdSub, rdDiv, rdMod, rdPow, rdIAdd, rdCmp, rdIsN, isn_non, isn_bl, isn_int, isn_str, isn_ref, isn_tup, isn_rol, isn_obj, rdEqG, rdIx_tup, rdIx_rol, rdIx_put, rdSet, rdLen_tup, rdLen_rol, rdLen_str, rdLen_put, rdInt1, rdInt, rdInt2, rdAppend, rdExt, rdPopAt, rdMaxL, rdMinL, rdListV, rdIsB, isBlV, rdStrI, rdIntS, dFrz, dFld, insOf_put, dMeth, lstOf_rol, lstOf_put, seqOf_tup, seqOf_rol, seqOf_put, frz_tup, frz_rol, frz_int, frz_bl, frz_non, frz_str, frz_obj, startN, wipeD, List.map_cons, List.map_nil, List.length_cons, List.length_nil, Nat.zero_add, Nat.sub_self, Nat.reduceAdd, Nat.reduceSub, List.replicate_succ, List.replicate_zero, List.cons_append, List.nil_append, List.append_nil, List.getElem?_cons_zero, List.getElem?_cons_succ, List.set_cons_zero, List.set_cons_succ, Option.some.injEq, exists_eq_left', DEnds.xd, atI_0, atI_1, atI_2, atI_3, atI_4, atI_5, atI_6, atI_7, ixN_50, ixN_51, ixN_52, ixN_53, ixN_54, ixN_30, ixN_31, ixN_32, put_same, put_put, true_and, and_true, decide_true, decide_false, Bool.not_true, Bool.not_false, Bool.false_eq_true, if_true, if_false, decide_eq_true_eq, Bool.not_eq_true', decide_eq_false_iff_not, mem_one, ex_one, and_self]
      refine cut_seq (fun ρ U => U = T ∧ i0 + j < xs.length ∧ ρ = [some (.tup (List.map Dv.int xs)), some (.int (i0 : Int)), some (.int (j : Int)), y3, y4]) (fun N2 hN2 => ?_) (fun ρ U hM => ?_)
      · simp only [dSeq, dAsg, dRet, dRetN, dDrop, dRaise, dBreak, dCont, dPar, dAug, dFor, dNext, dSetF, dAugF, dRaiseF, dIfS, dTest, dOp, dVar, dC, dCB, dCons, dNil, dCall, dAndV, dOrV, dNotV, dAndT, dOrT, dNotT, dIf, dTup, dLst, dLstV, dSl, dSlV, rdSlV, oSome, oNone, dNeg, gN, gT, gConsD, gNilD, gSubD, gFldD, dChain, dLc, dBM, isLst, iSeqD, iR1, iR2, iR3, dYes, rdAddV, rdMulV, rdSub, rdDiv, rdMod, rdPow, rdIAdd, rdCmp, rdIsN, isn_non, isn_bl, isn_int, isn_str, isn_ref, isn_tup, isn_rol, isn_obj, rdEqG, rdIx_tup, rdIx_rol, rdIx_put, rdSet, rdLen_tup, rdLen_rol, rdLen_str, rdLen_put, rdInt1, rdInt, rdInt2, rdAppend, rdExt, rdPopAt, rdMaxL, rdMinL, rdListV, rdIsB, isBlV, rdStrI, rdIntS, dFrz, dFld, insOf_put, dMeth, lstOf_rol, lstOf_put, seqOf_tup, seqOf_rol, seqOf_put, frz_tup, frz_rol, frz_int, frz_bl, frz_non, frz_str, frz_obj, startN, wipeD, List.map_cons, List.map_nil, List.length_cons, List.length_nil, Nat.zero_add, Nat.sub_self, Nat.reduceAdd, Nat.reduceSub, List.replicate_succ, List.replicate_zero, List.cons_append, List.nil_append, List.append_nil, List.getElem?_cons_zero, List.getElem?_cons_succ, List.set_cons_zero, List.set_cons_succ, Option.some.injEq, exists_eq_left', DEnds.xd, atI_0, atI_1, atI_2, atI_3, atI_4, atI_5, atI_6, atI_7, ixN_50, ixN_51, ixN_52, ixN_53, ixN_54, ixN_30, ixN_31, ixN_32, put_same, put_put, true_and, and_true, decide_true, decide_false, Bool.not_true, Bool.not_false, Bool.false_eq_true, if_true, if_false, decide_eq_true_eq, Bool.not_eq_true', decide_eq_false_iff_not, mem_one, ex_one, and_self]
        rw [List.length_map]
        by_cases h1 : (xs.length : Int) ≤ (i0 : Int) + j
        · rw [if_pos h1]
          have e := fnd_out (l := xs.drop i0) (by omega) hb (.inl (by omega))
          unfold readO at h
          rw [e] at h
          exact h
        · rw [if_neg h1]
          exact hN2 _ _ ⟨rfl, by omega, rfl⟩
      obtain ⟨rfl, hlt, rfl⟩ := hM
      have ea := atx j hlt
      have eb := hr.2 _ (List.getElem_mem hlt)
      have ed : (xs.drop i0)[j]? = some xs[i0 + j] := by rw [hget, List.getElem?_eq_getElem hlt]
      simp only [dIfS, dTest, dOp, dVar, dC, dCB, dCons, dNil, dCall, dAndV, dOrV, dNotV, dAndT, dOrT, dNotT, dIf, dTup, dLst, dLstV, dSl, dSlV, rdSlV, oSome, oNone, dNeg, gN, gT, gConsD, gNilD, gSubD, gFldD, dChain, dLc, dBM, isLst, iSeqD, iR1, iR2, iR3, dYes, rdAddV, rdMulV, rdSub, rdDiv, rdMod, rdPow, rdIAdd, rdCmp, rdIsN, isn_non, isn_bl, isn_int, isn_str, isn_ref, isn_tup, isn_rol, isn_obj, rdEqG, rdIx_tup, rdIx_rol, rdIx_put, rdSet, rdLen_tup, rdLen_rol, rdLen_str, rdLen_put, rdInt1, rdInt, rdInt2, rdAppend, rdExt, rdPopAt, rdMaxL, rdMinL, rdListV, rdIsB, isBlV, rdStrI, rdIntS, dFrz, dFld, insOf_put, dMeth, lstOf_rol, lstOf_put, seqOf_tup, seqOf_rol, seqOf_put, frz_tup, frz_rol, frz_int, frz_bl, frz_non, frz_str, frz_obj, startN, wipeD, List.map_cons, List.map_nil, List.length_cons, List.length_nil, Nat.zero_add, Nat.sub_self, Nat.reduceAdd, Nat.reduceSub, List.replicate_succ, List.replicate_zero, List.cons_append, List.nil_append, List.append_nil, List.getElem?_cons_zero, List.getElem?_cons_succ, List.set_cons_zero, List.set_cons_succ, Option.some.injEq, exists_eq_left', DEnds.xd, atI_0, atI_1, atI_2, atI_3, atI_4, atI_5, atI_6, atI_7, ixN_50, ixN_51, ixN_52, ixN_53, ixN_54, ixN_30, ixN_31, ixN_32, put_same, put_put, true_and, and_true, decide_true, decide_false, Bool.not_true, Bool.not_false, Bool.false_eq_true, if_true, if_false, decide_eq_true_eq, Bool.not_eq_true', decide_eq_false_iff_not, mem_one, ex_one, and_self]
      refine ⟨_, ea, ?_⟩
      simp only [dIfS, dTest, dOp, dVar, dC, dCB, dCons, dNil, dCall, dAndV, dOrV, dNotV, dAndT, dOrT, dNotT, dIf, dTup, dLst, dLstV, dSl, dSlV, rdSlV, oSome, oNone, dNeg, gN, gT, gConsD, gNilD, gSubD, gFldD, dChain, dLc, dBM, isLst, iSeqD, iR1, iR2, iR3, dYes, rdAddV, rdMulV, rdSub, rdDiv, rdMod, rdPow, rdIAdd, rdCmp, rdIsN, isn_non, isn_bl, isn_int, isn_str, isn_ref, isn_tup, isn_rol, isn_obj, rdEqG, rdIx_tup, rdIx_rol, rdIx_put, rdSet, rdLen_tup, rdLen_rol, rdLen_str, rdLen_put, rdInt1, rdInt, rdInt2, rdAppend, rdExt, rdPopAt, rdMaxL, rdMinL, rdListV, rdIsB, isBlV, rdStrI, rdIntS, dFrz, dFld, insOf_put, dMeth, lstOf_rol, lstOf_put, seqOf_tup, seqOf_rol, seqOf_put, frz_tup, frz_rol, frz_int, frz_bl, frz_non, frz_str, frz_obj, startN, wipeD, List.map_cons, List.map_nil, List.length_cons, List.length_nil, Nat.zero_add, Nat.sub_self, Nat.reduceAdd, Nat.reduceSub, List.replicate_succ, List.replicate_zero, List.cons_append, List.nil_append, List.append_nil, List.getElem?_cons_zero, List.getElem?_cons_succ, List.set_cons_zero, List.set_cons_succ, Option.some.injEq, exists_eq_left', DEnds.xd, atI_0, atI_1, atI_2, atI_3, atI_4, atI_5, atI_6, atI_7, ixN_50, ixN_51, ixN_52, ixN_53, ixN_54, ixN_30, ixN_31, ixN_32, put_same, put_put, true_and, and_true, decide_true, decide_false, Bool.not_true, Bool.not_false, Bool.false_eq_true, if_true, if_false, decide_eq_true_eq, Bool.not_eq_true', decide_eq_false_iff_not, mem_one, ex_one, and_self]
      by_cases h1 : xs[i0 + j] < 128
      · rw [if_pos h1]
        have ef := fnd_here hj10 hb ed h1
        have hh : readO xs i0 = if (0 < j ∧ xs[i0 + j] = 0) ∨ 18446744073709551616 ≤ val ((xs.drop i0).take (j + 1)) then none else some (val ((xs.drop i0).take (j + 1)), i0 + j + 1) := by
          unfold readO
          rw [ef]
          dsimp only
          rw [ed]
          simp only [Option.some.injEq]
        rw [hh] at h
        refine cut_seq (fun ρ U' => U' = U ∧ ¬ (0 < j ∧ xs[i0 + j] = 0) ∧ ρ = [some (.tup (List.map Dv.int xs)), some (.int (i0 : Int)), some (.int (j : Int)), y3, y4]) (fun N2 hN2 => ?_) (fun ρ U' hM => ?_)
        · simp only [dSeq, dAsg, dRet, dRetN, dDrop, dRaise, dBreak, dCont, dPar, dAug, dFor, dNext, dSetF, dAugF, dRaiseF, dIfS, dTest, dOp, dVar, dC, dCB, dCons, dNil, dCall, dAndV, dOrV, dNotV, dAndT, dOrT, dNotT, dIf, dTup, dLst, dLstV, dSl, dSlV, rdSlV, oSome, oNone, dNeg, gN, gT, gConsD, gNilD, gSubD, gFldD, dChain, dLc, dBM, isLst, iSeqD, iR1, iR2, iR3, dYes, rdAddV, rdMulV, rdSub, rdDiv, rdMod, rdPow, rdIAdd, rdCmp, rdIsN, isn_non, isn_bl, isn_int, isn_str, isn_ref, isn_tup, isn_rol, isn_obj, rdEqG, rdIx_tup, rdIx_rol, rdIx_put, rdSet, rdLen_tup, rdLen_rol, rdLen_str, rdLen_put, rdInt1, rdInt, rdInt2, rdAppend, rdExt, rdPopAt, rdMaxL, rdMinL, rdListV, rdIsB, isBlV, rdStrI, rdIntS, dFrz, dFld, insOf_put, dMeth, lstOf_rol, lstOf_put, seqOf_tup, seqOf_rol, seqOf_put, frz_tup, frz_rol, frz_int, frz_bl, frz_non, frz_str, frz_obj, startN, wipeD, List.map_cons, List.map_nil, List.length_cons, List.length_nil, Nat.zero_add, Nat.sub_self, Nat.reduceAdd, Nat.reduceSub, List.replicate_succ, List.replicate_zero, List.cons_append, List.nil_append, List.append_nil, List.getElem?_cons_zero, List.getElem?_cons_succ, List.set_cons_zero, List.set_cons_succ, Option.some.injEq, exists_eq_left', DEnds.xd, atI_0, atI_1, atI_2, atI_3, atI_4, atI_5, atI_6, atI_7, ixN_50, ixN_51, ixN_52, ixN_53, ixN_54, ixN_30, ixN_31, ixN_32, put_same, put_put, true_and, and_true, decide_true, decide_false, Bool.not_true, Bool.not_false, Bool.false_eq_true, if_true, if_false, decide_eq_true_eq, Bool.not_eq_true', decide_eq_false_iff_not, mem_one, ex_one, and_self]
          by_cases h2 : (0 : Int) < j
          · rw [if_pos h2]
            refine ⟨_, ea, ?_⟩
            simp only [dSeq, dAsg, dRet, dRetN, dDrop, dRaise, dBreak, dCont, dPar, dAug, dFor, dNext, dSetF, dAugF, dRaiseF, dIfS, dTest, dOp, dVar, dC, dCB, dCons, dNil, dCall, dAndV, dOrV, dNotV, dAndT, dOrT, dNotT, dIf, dTup, dLst, dLstV, dSl, dSlV, rdSlV, oSome, oNone, dNeg, gN, gT, gConsD, gNilD, gSubD, gFldD, dChain, dLc, dBM, isLst, iSeqD, iR1, iR2, iR3, dYes, rdAddV, rdMulV, rdSub, rdDiv, rdMod, rdPow, rdIAdd, rdCmp, rdIsN, isn_non, isn_bl, isn_int, isn_str, isn_ref, isn_tup, isn_rol, isn_obj, rdEqG, rdIx_tup, rdIx_rol, rdIx_put, rdSet, rdLen_tup, rdLen_rol, rdLen_str, rdLen_put, rdInt1, rdInt, rdInt2, rdAppend, rdExt, rdPopAt, rdMaxL, rdMinL, rdListV, rdIsB, isBlV, rdStrI, rdIntS, dFrz, dFld, insOf_put, dMeth, lstOf_rol, lstOf_put, seqOf_tup, seqOf_rol, seqOf_put, frz_tup, frz_rol, frz_int, frz_bl, frz_non, frz_str, frz_obj, startN, wipeD, List.map_cons, List.map_nil, List.length_cons, List.length_nil, Nat.zero_add, Nat.sub_self, Nat.reduceAdd, Nat.reduceSub, List.replicate_succ, List.replicate_zero, List.cons_append, List.nil_append, List.append_nil, List.getElem?_cons_zero, List.getElem?_cons_succ, List.set_cons_zero, List.set_cons_succ, Option.some.injEq, exists_eq_left', DEnds.xd, atI_0, atI_1, atI_2, atI_3, atI_4, atI_5, atI_6, atI_7, ixN_50, ixN_51, ixN_52, ixN_53, ixN_54, ixN_30, ixN_31, ixN_32, put_same, put_put, true_and, and_true, decide_true, decide_false, Bool.not_true, Bool.not_false, Bool.false_eq_true, if_true, if_false, decide_eq_true_eq, Bool.not_eq_true', decide_eq_false_iff_not, mem_one, ex_one, and_self]
            by_cases h3 : xs[i0 + j] = 0
            · rw [if_pos h3]
              rw [if_pos (.inl ⟨by omega, h3⟩)] at h
              exact h
            · rw [if_neg h3]
              exact hN2 _ _ ⟨rfl, fun z => h3 z.2, rfl⟩
          · rw [if_neg h2]
            exact hN2 _ _ ⟨rfl, fun z => h2 (by omega), rfl⟩
        obtain ⟨rfl, hnz, rfl⟩ := hM
        refine cut_seq (fun ρ U => U = U' ∧ ρ = [some (.tup (List.map Dv.int xs)), some (.int (i0 : Int)), some (.int (j : Int)), some (.int 0), y4]) (fun N2 hN2 => ?_) (fun ρ U hM => ?_)
        · simp only [dSeq, dAsg, dRet, dRetN, dDrop, dRaise, dBreak, dCont, dPar, dAug, dFor, dNext, dSetF, dAugF, dRaiseF, dIfS, dTest, dOp, dVar, dC, dCB, dCons, dNil, dCall, dAndV, dOrV, dNotV, dAndT, dOrT, dNotT, dIf, dTup, dLst, dLstV, dSl, dSlV, rdSlV, oSome, oNone, dNeg, gN, gT, gConsD, gNilD, gSubD, gFldD, dChain, dLc, dBM, isLst, iSeqD, iR1, iR2, iR3, dYes, rdAddV, rdMulV, rdSub, rdDiv, rdMod, rdPow, rdIAdd, rdCmp, rdIsN, isn_non, isn_bl, isn_int, isn_str, isn_ref, isn_tup, isn_rol, isn_obj, rdEqG, rdIx_tup, rdIx_rol, rdIx_put, rdSet, rdLen_tup, rdLen_rol, rdLen_str, rdLen_put, rdInt1, rdInt, rdInt2, rdAppend, rdExt, rdPopAt, rdMaxL, rdMinL, rdListV, rdIsB, isBlV, rdStrI, rdIntS, dFrz, dFld, insOf_put, dMeth, lstOf_rol, lstOf_put, seqOf_tup, seqOf_rol, seqOf_put, frz_tup, frz_rol, frz_int, frz_bl, frz_non, frz_str, frz_obj, startN, wipeD, List.map_cons, List.map_nil, List.length_cons, List.length_nil, Nat.zero_add, Nat.sub_self, Nat.reduceAdd, Nat.reduceSub, List.replicate_succ, List.replicate_zero, List.cons_append, List.nil_append, List.append_nil, List.getElem?_cons_zero, List.getElem?_cons_succ, List.set_cons_zero, List.set_cons_succ, Option.some.injEq, exists_eq_left', DEnds.xd, atI_0, atI_1, atI_2, atI_3, atI_4, atI_5, atI_6, atI_7, ixN_50, ixN_51, ixN_52, ixN_53, ixN_54, ixN_30, ixN_31, ixN_32, put_same, put_put, true_and, and_true, decide_true, decide_false, Bool.not_true, Bool.not_false, Bool.false_eq_true, if_true, if_false, decide_eq_true_eq, Bool.not_eq_true', decide_eq_false_iff_not, mem_one, ex_one, and_self]
          exact hN2 _ _ ⟨rfl, rfl⟩
        obtain ⟨rfl, rfl⟩ := hM
        refine cut_seq (fun ρ U' => U' = U ∧ ∃ y4, ρ = [some (.tup (List.map Dv.int xs)), some (.int (i0 : Int)), some (.int (j : Int)), some (.int (val ((xs.drop i0).take (j + 1)))), y4]) (fun N2 hN2 => ?_) (fun ρ U' hM => ?_)
        · try unfold dFor
          simp only [dIfS, dTest, dOp, dVar, dC, dCB, dCons, dNil, dCall, dAndV, dOrV, dNotV, dAndT, dOrT, dNotT, dIf, dTup, dLst, dLstV, dSl, dSlV, rdSlV, oSome, oNone, dNeg, gN, gT, gConsD, gNilD, gSubD, gFldD, dChain, dLc, dBM, isLst, iSeqD, iR1, iR2, iR3, dYes, rdAddV, rdMulV, rdSub, rdDiv, rdMod, rdPow, rdIAdd, rdCmp, rdIsN, isn_non, isn_bl, isn_int, isn_str, isn_ref, isn_tup, isn_rol, isn_obj, rdEqG, rdIx_tup, rdIx_rol, rdIx_put, rdSet, rdLen_tup, rdLen_rol, rdLen_str, rdLen_put, rdInt1, rdInt, rdInt2, rdAppend, rdExt, rdPopAt, rdMaxL, rdMinL, rdListV, rdIsB, isBlV, rdStrI, rdIntS, dFrz, dFld, insOf_put, dMeth, lstOf_rol, lstOf_put, seqOf_tup, seqOf_rol, seqOf_put, frz_tup, frz_rol, frz_int, frz_bl, frz_non, frz_str, frz_obj, startN, wipeD, List.map_cons, List.map_nil, List.length_cons, List.length_nil, Nat.zero_add, Nat.sub_self, Nat.reduceAdd, Nat.reduceSub, List.replicate_succ, List.replicate_zero, List.cons_append, List.nil_append, List.append_nil, List.getElem?_cons_zero, List.getElem?_cons_succ, List.set_cons_zero, List.set_cons_succ, Option.some.injEq, exists_eq_left', DEnds.xd, atI_0, atI_1, atI_2, atI_3, atI_4, atI_5, atI_6, atI_7, ixN_50, ixN_51, ixN_52, ixN_53, ixN_54, ixN_30, ixN_31, ixN_32, put_same, put_put, true_and, and_true, decide_true, decide_false, Bool.not_true, Bool.not_false, Bool.false_eq_true, if_true, if_false, decide_eq_true_eq, Bool.not_eq_true', decide_eq_false_iff_not, mem_one, ex_one, and_self]
          refine ⟨_, RgC.neg (by omega) (by omega) (by omega) (by omega), ?_⟩
          rw [show ((i0 : Int) + j - (i0 - 1)).toNat = j + 1 by omega]
          have hlen : ((xs.drop i0).take (j + 1)).length = j + 1 := by rw [List.length_take, hdl]; omega
          refine for_go (fun m ρ T => T = U ∧ m ≤ j + 1 ∧ ∃ y4, ρ = [some (.tup (List.map Dv.int xs)), some (.int (i0 : Int)), some (.int (j : Int)), some (.int (val (((xs.drop i0).take (j + 1)).drop (j + 1 - m)))), y4]) ⟨rfl, by omega, y4, ?_⟩ (fun _ _ _ _ _ => trivial) (fun m x ρ T hx hw => ?_) fun ρ T hw => ?_
          · rw [List.drop_of_length_le (by omega)]
            rfl
          · obtain ⟨rfl, hm, y4, rfl⟩ := hw
            obtain ⟨hm2, rfl⟩ := rangeL_get hx
            have e1 : ((i0 : Int) + j + (m : Int) * -1) = (i0 : Int) + ((j - m : Nat) : Int) := by omega
            rw [e1]
            have hlt2 : i0 + (j - m) < xs.length := by omega
            simp only [dSeq, dAsg, dRet, dRetN, dDrop, dRaise, dBreak, dCont, dPar, dAug, dFor, dNext, dSetF, dAugF, dRaiseF, dIfS, dTest, dOp, dVar, dC, dCB, dCons, dNil, dCall, dAndV, dOrV, dNotV, dAndT, dOrT, dNotT, dIf, dTup, dLst, dLstV, dSl, dSlV, rdSlV, oSome, oNone, dNeg, gN, gT, gConsD, gNilD, gSubD, gFldD, dChain, dLc, dBM, isLst, iSeqD, iR1, iR2, iR3, dYes, rdAddV, rdMulV, rdSub, rdDiv, rdMod, rdPow, rdIAdd, rdCmp, rdIsN, isn_non, isn_bl, isn_int, isn_str, isn_ref, isn_tup, isn_rol, isn_obj, rdEqG, rdIx_tup, rdIx_rol, rdIx_put, rdSet, rdLen_tup, rdLen_rol, rdLen_str, rdLen_put, rdInt1, rdInt, rdInt2, rdAppend, rdExt, rdPopAt, rdMaxL, rdMinL, rdListV, rdIsB, isBlV, rdStrI, rdIntS, dFrz, dFld, insOf_put, dMeth, lstOf_rol, lstOf_put, seqOf_tup, seqOf_rol, seqOf_put, frz_tup, frz_rol, frz_int, frz_bl, frz_non, frz_str, frz_obj, startN, wipeD, List.map_cons, List.map_nil, List.length_cons, List.length_nil, Nat.zero_add, Nat.sub_self, Nat.reduceAdd, Nat.reduceSub, List.replicate_succ, List.replicate_zero, List.cons_append, List.nil_append, List.append_nil, List.getElem?_cons_zero, List.getElem?_cons_succ, List.set_cons_zero, List.set_cons_succ, Option.some.injEq, exists_eq_left', DEnds.xd, atI_0, atI_1, atI_2, atI_3, atI_4, atI_5, atI_6, atI_7, ixN_50, ixN_51, ixN_52, ixN_53, ixN_54, ixN_30, ixN_31, ixN_32, put_same, put_put, true_and, and_true, decide_true, decide_false, Bool.not_true, Bool.not_false, Bool.false_eq_true, if_true, if_false, decide_eq_true_eq, Bool.not_eq_true', decide_eq_false_iff_not, mem_one, ex_one, and_self]
            refine ⟨mulok_r (by decide) (by decide), _, atx _ hlt2, ?_⟩
            simp only [dSeq, dAsg, dRet, dRetN, dDrop, dRaise, dBreak, dCont, dPar, dAug, dFor, dNext, dSetF, dAugF, dRaiseF, dIfS, dTest, dOp, dVar, dC, dCB, dCons, dNil, dCall, dAndV, dOrV, dNotV, dAndT, dOrT, dNotT, dIf, dTup, dLst, dLstV, dSl, dSlV, rdSlV, oSome, oNone, dNeg, gN, gT, gConsD, gNilD, gSubD, gFldD, dChain, dLc, dBM, isLst, iSeqD, iR1, iR2, iR3, dYes, rdAddV, rdMulV, rdSub, rdDiv, rdMod, rdPow, rdIAdd, rdCmp, rdIsN, isn_non, isn_bl, isn_int, isn_str, isn_ref, isn_tup, isn_rol, isn_obj, rdEqG, rdIx_tup, rdIx_rol, rdIx_put, rdSet, rdLen_tup, rdLen_rol, rdLen_str, rdLen_put, rdInt1, rdInt, rdInt2, rdAppend, rdExt, rdPopAt, rdMaxL, rdMinL, rdListV, rdIsB, isBlV, rdStrI, rdIntS, dFrz, dFld, insOf_put, dMeth, lstOf_rol, lstOf_put, seqOf_tup, seqOf_rol, seqOf_put, frz_tup, frz_rol, frz_int, frz_bl, frz_non, frz_str, frz_obj, startN, wipeD, List.map_cons, List.map_nil, List.length_cons, List.length_nil, Nat.zero_add, Nat.sub_self, Nat.reduceAdd, Nat.reduceSub, List.replicate_succ, List.replicate_zero, List.cons_append, List.nil_append, List.append_nil, List.getElem?_cons_zero, List.getElem?_cons_succ, List.set_cons_zero, List.set_cons_succ, Option.some.injEq, exists_eq_left', DEnds.xd, atI_0, atI_1, atI_2, atI_3, atI_4, atI_5, atI_6, atI_7, ixN_50, ixN_51, ixN_52, ixN_53, ixN_54, ixN_30, ixN_31, ixN_32, put_same, put_put, true_and, and_true, decide_true, decide_false, Bool.not_true, Bool.not_false, Bool.false_eq_true, if_true, if_false, decide_eq_true_eq, Bool.not_eq_true', decide_eq_false_iff_not, mem_one, ex_one, and_self]
            refine ⟨by decide, by omega, some (.int ((i0 : Int) + ((j - m : Nat) : Int))), ?_⟩
            have e2 : ((xs.drop i0).take (j + 1)).drop (j + 1 - (m + 1)) = xs[i0 + (j - m)] :: ((xs.drop i0).take (j + 1)).drop (j + 1 - m) := by
              have hlt3 : j + 1 - (m + 1) < ((xs.drop i0).take (j + 1)).length := by omega
              rw [List.drop_eq_getElem_cons hlt3]
              congr 1
              · rw [List.getElem_take, List.getElem_drop]
                congr 1
                omega
              · congr 1
                omega
            rw [e2]
            rw [val_cons]
          · obtain ⟨rfl, hm, y4, rfl⟩ := hw
            rw [rangeL_len, Nat.sub_self, List.drop_zero] at *
            exact hN2 _ _ ⟨rfl, y4, rfl⟩
        obtain ⟨rfl, y4, rfl⟩ := hM
        simp only [dSeq, dAsg, dRet, dRetN, dDrop, dRaise, dBreak, dCont, dPar, dAug, dFor, dNext, dSetF, dAugF, dRaiseF, dIfS, dTest, dOp, dVar, dC, dCB, dCons, dNil, dCall, dAndV, dOrV, dNotV, dAndT, dOrT, dNotT, dIf, dTup, dLst, dLstV, dSl, dSlV, rdSlV, oSome, oNone, dNeg, gN, gT, gConsD, gNilD, gSubD, gFldD, dChain, dLc, dBM, isLst, iSeqD, iR1, iR2, iR3, dYes, rdAddV, rdMulV, rdSub, rdDiv, rdMod, rdPow, rdIAdd, rdCmp, rdIsN, isn_non, isn_bl, isn_int, isn_str, isn_ref, isn_tup, isn_rol, isn_obj, rdEqG, rdIx_tup, rdIx_rol, rdIx_put, rdSet, rdLen_tup, rdLen_rol, rdLen_str, rdLen_put, rdInt1, rdInt, rdInt2, rdAppend, rdExt, rdPopAt, rdMaxL, rdMinL, rdListV, rdIsB, isBlV, rdStrI, rdIntS, dFrz, dFld, insOf_put, dMeth, lstOf_rol, lstOf_put, seqOf_tup, seqOf_rol, seqOf_put, frz_tup, frz_rol, frz_int, frz_bl, frz_non, frz_str, frz_obj, startN, wipeD, List.map_cons, List.map_nil, List.length_cons, List.length_nil, Nat.zero_add, Nat.sub_self, Nat.reduceAdd, Nat.reduceSub, List.replicate_succ, List.replicate_zero, List.cons_append, List.nil_append, List.append_nil, List.getElem?_cons_zero, List.getElem?_cons_succ, List.set_cons_zero, List.set_cons_succ, Option.some.injEq, exists_eq_left', DEnds.xd, atI_0, atI_1, atI_2, atI_3, atI_4, atI_5, atI_6, atI_7, ixN_50, ixN_51, ixN_52, ixN_53, ixN_54, ixN_30, ixN_31, ixN_32, put_same, put_put, true_and, and_true, decide_true, decide_false, Bool.not_true, Bool.not_false, Bool.false_eq_true, if_true, if_false, decide_eq_true_eq, Bool.not_eq_true', decide_eq_false_iff_not, mem_one, ex_one, and_self]
        rw [e64]
        refine ⟨c64, ?_⟩
        by_cases h5 : 18446744073709551616 ≤ val ((xs.drop i0).take (j + 1))
        · rw [if_pos h5]
          rw [if_pos (.inr h5)] at h
          exact h
        · rw [if_neg h5]
          rw [if_neg (fun z => z.elim hnz h5)] at h
          have ec : ((i0 + j + 1 : Nat) : Int) = (i0 : Int) + j + 1 := by omega
          rw [← ec]
          exact ⟨sl2, h⟩
      · rw [if_neg h1]
        refine ⟨rfl, fun k hk => ?_, _, _, _, rfl⟩
        by_cases e : k = j
        · subst e
          exact ⟨_, ed, h1⟩
        · exact hb k (by omega)
    · obtain ⟨rfl, hb, y2, y3, y4, rfl⟩ := hw
      rw [rangeL_len] at hb
      refine hN _ _ ⟨rfl, ?_, _, _, _, rfl⟩
      have e := fnd_out (l := xs.drop i0) (by decide) hb (.inr rfl)
      unfold readO
      rw [e]
  obtain ⟨rfl, e, y2, y3, y4, rfl⟩ := hM
  rw [e] at h
  simp only [dSeq, dAsg, dRet, dRetN, dDrop, dRaise, dBreak, dCont, dPar, dAug, dFor, dNext, dSetF, dAugF, dRaiseF, dIfS, dTest, dOp, dVar, dC, dCB, dCons, dNil, dCall, dAndV, dOrV, dNotV, dAndT, dOrT, dNotT, dIf, dTup, dLst, dLstV, dSl, dSlV, rdSlV, oSome, oNone, dNeg, gN, gT, gConsD, gNilD, gSubD, gFldD, dChain, dLc, dBM, isLst, iSeqD, iR1, iR2, iR3, dYes, rdAddV, rdMulV, rdSub, rdDiv, rdMod, rdPow, rdIAdd, rdCmp, rdIsN, isn_non, isn_bl, isn_int, isn_str, isn_ref, isn_tup, isn_rol, isn_obj, rdEqG, rdIx_tup, rdIx_rol, rdIx_put, rdSet, rdLen_tup, rdLen_rol, rdLen_str, rdLen_put, rdInt1, rdInt, rdInt2, rdAppend, rdExt, rdPopAt, rdMaxL, rdMinL, rdListV, rdIsB, isBlV, rdStrI, rdIntS, dFrz, dFld, insOf_put, dMeth, lstOf_rol, lstOf_put, seqOf_tup, seqOf_rol, seqOf_put, frz_tup, frz_rol, frz_int, frz_bl, frz_non, frz_str, frz_obj, startN, wipeD, List.map_cons, List.map_nil, List.length_cons, List.length_nil, Nat.zero_add, Nat.sub_self, Nat.reduceAdd, Nat.reduceSub, List.replicate_succ, List.replicate_zero, List.cons_append, List.nil_append, List.append_nil, List.getElem?_cons_zero, List.getElem?_cons_succ, List.set_cons_zero, List.set_cons_succ, Option.some.injEq, exists_eq_left', DEnds.xd, atI_0, atI_1, atI_2, atI_3, atI_4, atI_5, atI_6, atI_7, ixN_50, ixN_51, ixN_52, ixN_53, ixN_54, ixN_30, ixN_31, ixN_32, put_same, put_put, true_and, and_true, decide_true, decide_false, Bool.not_true, Bool.not_false, Bool.false_eq_true, if_true, if_false, decide_eq_true_eq, Bool.not_eq_true', decide_eq_false_iff_not, mem_one, ex_one, and_self]
  exact h

def sp__law_byte (A : Ad) : SpD := fun ds S Q _ => ∃ a c B, ds = [.ref a] ∧ IsH a c B S ∧ ∀ r S', IsH a c B S' → 0 ≤ r → r < 256 → Q (.int r) S'
theorem len__law_byte (A : Ad) : ∀ ds S Q X, sp__law_byte A ds S Q X → ds.length = 1 := by rintro _ _ _ _ ⟨_, _, _, rfl, _⟩; rfl
def r__law_byte (A : Ad) : DS := (dSeq (dIfS (dTest (dOp rdEq (dCall (sp__law_draw A) (dCons (dVar 0) (dCons (dC (.int 2)) dNil))) (dC (.int 0)))) (dRet (dOp rdIx (dLstV (dCons (dC (.int 0)) (dCons (dC (.int 1)) (dCons (dC (.int 127)) (dCons (dC (.int 128)) (dCons (dC (.int 129)) (dCons (dC (.int 255)) dNil))))))) (dCall (sp__law_draw A) (dCons (dVar 0) (dCons (dC (.int 6)) dNil))))) dNext)
    (dRet (dCall (sp__law_draw A) (dCons (dVar 0) (dCons (dC (.int 256)) dNil)))))
/-- a drawn item of a written list -/
theorem ask_ix {A : Ad} {a c : Addr} {B S : Sto} {xs : List Dv} {Q : QD} {X : XD} (hH : IsH a c B S) (q : ∀ (r : Nat) d S', IsH a c B S' → xs[r]? = some d → Q d S') (hm : 0 < xs.length) (hm2 : (xs.length : Int) < 2 ^ 64) :
    sp__law_draw A [.ref a, .int xs.length] S (fun y S1 => rdIx (.rol xs) y S1 Q) X := ask hH (fun r S' h h0 h1 => by
  rw [rdIx_rol]
  obtain ⟨d, hd⟩ : ∃ d, xs[r.toNat]? = some d := ⟨_, List.getElem?_eq_getElem (by omega : r.toNat < xs.length)⟩
  exact ⟨d, by rw [atI_nn h0]; exact hd, q r.toNat d S' h hd⟩) (by omega) hm2
theorem rd__law_byte (A : Ad) : Rd (r__law_byte A) 1 (sp__law_byte A) := by
  rintro ds S Q X ⟨a, c, B, rfl, hH, h⟩
  unfold r__law_byte
  simp only [dSeq, dAsg, dRet, dRetN, dDrop, dRaise, dBreak, dCont, dPar, dAug, dFor, dNext, dSetF, dAugF, dRaiseF, dIfS, dTest, dOp, dVar, dC, dCB, dCons, dNil, dCall, dAndV, dOrV, dNotV, dAndT, dOrT, dNotT, dIf, dTup, dLst, dLstV, dSl, dSlV, rdSlV, oSome, oNone, dNeg, gN, gT, gConsD, gNilD, gSubD, gFldD, dChain, dLc, dBM, isLst, iSeqD, iR1, iR2, iR3, dYes, rdAddV, rdMulV, rdSub, rdDiv, rdMod, rdPow, rdIAdd, rdCmp, rdIsN, isn_non, isn_bl, isn_int, isn_str, isn_ref, isn_tup, isn_rol, isn_obj, rdEqG, rdIx_tup, rdIx_rol, rdIx_put, rdSet, rdLen_tup, rdLen_rol, rdLen_str, rdLen_put, rdInt1, rdInt, rdInt2, rdAppend, rdExt, rdPopAt, rdMaxL, rdMinL, rdListV, rdIsB, isBlV, rdStrI, rdIntS, dFrz, dFld, insOf_put, dMeth, lstOf_rol, lstOf_put, seqOf_tup, seqOf_rol, seqOf_put, frz_tup, frz_rol, frz_int, frz_bl, frz_non, frz_str, frz_obj, startN, wipeD, List.map_cons, List.map_nil, List.length_cons, List.length_nil, Nat.zero_add, Nat.sub_self, Nat.reduceAdd, Nat.reduceSub, List.replicate_succ, List.replicate_zero, List.cons_append, List.nil_append, List.append_nil, List.getElem?_cons_zero, List.getElem?_cons_succ, List.set_cons_zero, List.set_cons_succ, Option.some.injEq, exists_eq_left', DEnds.xd, atI_0, atI_1, atI_2, atI_3, atI_4, atI_5, atI_6, atI_7, ixN_50, ixN_51, ixN_52, ixN_53, ixN_54, ixN_30, ixN_31, ixN_32, put_same, put_put, true_and, and_true, decide_true, decide_false, Bool.not_true, Bool.not_false, Bool.false_eq_true, if_true, if_false, decide_eq_true_eq, Bool.not_eq_true', decide_eq_false_iff_not, mem_one, ex_one, and_self]
  refine ask hH fun r T ht h1 h2 => ?_
  simp only [dSeq, dAsg, dRet, dRetN, dDrop, dRaise, dBreak, dCont, dPar, dAug, dFor, dNext, dSetF, dAugF, dRaiseF, dIfS, dTest, dOp, dVar, dC, dCB, dCons, dNil, dCall, dAndV, dOrV, dNotV, dAndT, dOrT, dNotT, dIf, dTup, dLst, dLstV, dSl, dSlV, rdSlV, oSome, oNone, dNeg, gN, gT, gConsD, gNilD, gSubD, gFldD, dChain, dLc, dBM, isLst, iSeqD, iR1, iR2, iR3, dYes, rdAddV, rdMulV, rdSub, rdDiv, rdMod, rdPow, rdIAdd, rdCmp, rdIsN, isn_non, isn_bl, isn_int, isn_str, isn_ref, isn_tup, isn_rol, isn_obj, rdEqG, rdIx_tup, rdIx_rol, rdIx_put, rdSet, rdLen_tup, rdLen_rol, rdLen_str, rdLen_put, rdInt1, rdInt, rdInt2, rdAppend, rdExt, rdPopAt, rdMaxL, rdMinL, rdListV, rdIsB, isBlV, rdStrI, rdIntS, dFrz, dFld, insOf_put, dMeth, lstOf_rol, lstOf_put, seqOf_tup, seqOf_rol, seqOf_put, frz_tup, frz_rol, frz_int, frz_bl, frz_non, frz_str, frz_obj, startN, wipeD, List.map_cons, List.map_nil, List.length_cons, List.length_nil, Nat.zero_add, Nat.sub_self, Nat.reduceAdd, Nat.reduceSub, List.replicate_succ, List.replicate_zero, List.cons_append, List.nil_append, List.append_nil, List.getElem?_cons_zero, List.getElem?_cons_succ, List.set_cons_zero, List.set_cons_succ, Option.some.injEq, exists_eq_left', DEnds.xd, atI_0, atI_1, atI_2, atI_3, atI_4, atI_5, atI_6, atI_7, ixN_50, ixN_51, ixN_52, ixN_53, ixN_54, ixN_30, ixN_31, ixN_32, put_same, put_put, true_and, and_true, decide_true, decide_false, Bool.not_true, Bool.not_false, Bool.false_eq_true, if_true, if_false, decide_eq_true_eq, Bool.not_eq_true', decide_eq_false_iff_not, mem_one, ex_one, and_self]
  split
  · refine ⟨slK, ask_ix (xs := [.int 0, .int 1, .int 127, .int 128, .int 129, .int 255]) ht (fun r d T2 ht2 hd => ?_) (by decide) (by decide)⟩
    obtain ⟨n, rfl, h3, h4⟩ : ∃ n : Int, d = .int n ∧ 0 ≤ n ∧ n < 256 := by
      have hr := (List.getElem?_eq_some_iff.mp hd).1
      simp at hr
      have : r = 0 ∨ r = 1 ∨ r = 2 ∨ r = 3 ∨ r = 4 ∨ r = 5 := by omega
      rcases this with rfl | rfl | rfl | rfl | rfl | rfl <;> (cases hd; exact ⟨_, rfl, by decide, by decide⟩)
    exact h _ _ ht2 h3 h4
  · exact ask ht fun r2 T2 ht2 h3 h4 => h _ _ ht2 h3 h4
def sp__law_bytes (A : Ad) : SpD := fun ds S Q _ => ∃ a c B m, ds = [.ref a, .int m] ∧ IsH a c B S ∧ 0 ≤ m ∧ m ≤ 1000 ∧ ∀ ns S', IsH a c B S' → (∀ n ∈ ns, 0 ≤ n ∧ n < 256) → (ns.length : Int) ≤ m → Q (.tup (List.map Dv.int ns)) S'
theorem len__law_bytes (A : Ad) : ∀ ds S Q X, sp__law_bytes A ds S Q X → ds.length = 2 := by rintro _ _ _ _ ⟨_, _, _, _, rfl, _⟩; rfl
def r__law_bytes (A : Ad) : DS := (dRet (dCB rdTuple (dCons (dFrz (dLc (iR1 (dCons (dCall (sp__law_draw A) (dCons (dVar 0) (dCons (dOp rdAddV (dVar 1) (dC (.int 1))) dNil))) dNil)) (gN 2) dYes (dCall (sp__law_byte A) (dCons (dVar 0) dNil)) [2])) dNil)))
theorem rd__law_bytes (A : Ad) : Rd (r__law_bytes A) 3 (sp__law_bytes A) := by
  rintro ds S Q X ⟨a, c, B, m, rfl, hH, hm0, hm1, h⟩
  unfold r__law_bytes
  simp only [dSeq, dAsg, dRet, dRetN, dDrop, dRaise, dBreak, dCont, dPar, dAug, dFor, dNext, dSetF, dAugF, dRaiseF, dIfS, dTest, dOp, dVar, dC, dCB, dCons, dNil, dCall, dAndV, dOrV, dNotV, dAndT, dOrT, dNotT, dIf, dTup, dLst, dLstV, dSl, dSlV, rdSlV, oSome, oNone, dNeg, gN, gT, gConsD, gNilD, gSubD, gFldD, dChain, dLc, dBM, isLst, iSeqD, iR1, iR2, iR3, dYes, rdAddV, rdMulV, rdSub, rdDiv, rdMod, rdPow, rdIAdd, rdCmp, rdIsN, isn_non, isn_bl, isn_int, isn_str, isn_ref, isn_tup, isn_rol, isn_obj, rdEqG, rdIx_tup, rdIx_rol, rdIx_put, rdSet, rdLen_tup, rdLen_rol, rdLen_str, rdLen_put, rdInt1, rdInt, rdInt2, rdAppend, rdExt, rdPopAt, rdMaxL, rdMinL, rdListV, rdIsB, isBlV, rdStrI, rdIntS, dFrz, dFld, insOf_put, dMeth, lstOf_rol, lstOf_put, seqOf_tup, seqOf_rol, seqOf_put, frz_tup, frz_rol, frz_int, frz_bl, frz_non, frz_str, frz_obj, startN, wipeD, List.map_cons, List.map_nil, List.length_cons, List.length_nil, Nat.zero_add, Nat.sub_self, Nat.reduceAdd, Nat.reduceSub, List.replicate_succ, List.replicate_zero, List.cons_append, List.nil_append, List.append_nil, List.getElem?_cons_zero, List.getElem?_cons_succ, List.set_cons_zero, List.set_cons_succ, Option.some.injEq, exists_eq_left', DEnds.xd, atI_0, atI_1, atI_2, atI_3, atI_4, atI_5, atI_6, atI_7, ixN_50, ixN_51, ixN_52, ixN_53, ixN_54, ixN_30, ixN_31, ixN_32, put_same, put_put, true_and, and_true, decide_true, decide_false, Bool.not_true, Bool.not_false, Bool.false_eq_true, if_true, if_false, decide_eq_true_eq, Bool.not_eq_true', decide_eq_false_iff_not, mem_one, ex_one, and_self]
  refine ask hH (fun r T ht h1 h2 => ?_) (by omega) (by omega)
  simp only [dSeq, dAsg, dRet, dRetN, dDrop, dRaise, dBreak, dCont, dPar, dAug, dFor, dNext, dSetF, dAugF, dRaiseF, dIfS, dTest, dOp, dVar, dC, dCB, dCons, dNil, dCall, dAndV, dOrV, dNotV, dAndT, dOrT, dNotT, dIf, dTup, dLst, dLstV, dSl, dSlV, rdSlV, oSome, oNone, dNeg, gN, gT, gConsD, gNilD, gSubD, gFldD, dChain, dLc, dBM, isLst, iSeqD, iR1, iR2, iR3, dYes, rdAddV, rdMulV, rdSub, rdDiv, rdMod, rdPow, rdIAdd, rdCmp, rdIsN, isn_non, isn_bl, isn_int, isn_str, isn_ref, isn_tup, isn_rol, isn_obj, rdEqG, rdIx_tup, rdIx_rol, rdIx_put, rdSet, rdLen_tup, rdLen_rol, rdLen_str, rdLen_put, rdInt1, rdInt, rdInt2, rdAppend, rdExt, rdPopAt, rdMaxL, rdMinL, rdListV, rdIsB, isBlV, rdStrI, rdIntS, dFrz, dFld, insOf_put, dMeth, lstOf_rol, lstOf_put, seqOf_tup, seqOf_rol, seqOf_put, frz_tup, frz_rol, frz_int, frz_bl, frz_non, frz_str, frz_obj, startN, wipeD, List.map_cons, List.map_nil, List.length_cons, List.length_nil, Nat.zero_add, Nat.sub_self, Nat.reduceAdd, Nat.reduceSub, List.replicate_succ, List.replicate_zero, List.cons_append, List.nil_append, List.append_nil, List.getElem?_cons_zero, List.getElem?_cons_succ, List.set_cons_zero, List.set_cons_succ, Option.some.injEq, exists_eq_left', DEnds.xd, atI_0, atI_1, atI_2, atI_3, atI_4, atI_5, atI_6, atI_7, ixN_50, ixN_51, ixN_52, ixN_53, ixN_54, ixN_30, ixN_31, ixN_32, put_same, put_put, true_and, and_true, decide_true, decide_false, Bool.not_true, Bool.not_false, Bool.false_eq_true, if_true, if_false, decide_eq_true_eq, Bool.not_eq_true', decide_eq_false_iff_not, mem_one, ex_one, and_self]
  refine lcV_hand (fun _ y => ∃ r, y = .int r ∧ 0 ≤ r ∧ r < 256) ht (by rw [rangeL_len, sizeLine_eq]; omega) (fun _ _ _ _ => trivial) (fun j x hx B' T2 K hB hT k => ?_) fun acc T2 hT hlen hacc => ?_
  · simp only [dSeq, dAsg, dRet, dRetN, dDrop, dRaise, dBreak, dCont, dPar, dAug, dFor, dNext, dSetF, dAugF, dRaiseF, dIfS, dTest, dOp, dVar, dC, dCB, dCons, dNil, dCall, dAndV, dOrV, dNotV, dAndT, dOrT, dNotT, dIf, dTup, dLst, dLstV, dSl, dSlV, rdSlV, oSome, oNone, dNeg, gN, gT, gConsD, gNilD, gSubD, gFldD, dChain, dLc, dBM, isLst, iSeqD, iR1, iR2, iR3, dYes, rdAddV, rdMulV, rdSub, rdDiv, rdMod, rdPow, rdIAdd, rdCmp, rdIsN, isn_non, isn_bl, isn_int, isn_str, isn_ref, isn_tup, isn_rol, isn_obj, rdEqG, rdIx_tup, rdIx_rol, rdIx_put, rdSet, rdLen_tup, rdLen_rol, rdLen_str, rdLen_put, rdInt1, rdInt, rdInt2, rdAppend, rdExt, rdPopAt, rdMaxL, rdMinL, rdListV, rdIsB, isBlV, rdStrI, rdIntS, dFrz, dFld, insOf_put, dMeth, lstOf_rol, lstOf_put, seqOf_tup, seqOf_rol, seqOf_put, frz_tup, frz_rol, frz_int, frz_bl, frz_non, frz_str, frz_obj, startN, wipeD, List.map_cons, List.map_nil, List.length_cons, List.length_nil, Nat.zero_add, Nat.sub_self, Nat.reduceAdd, Nat.reduceSub, List.replicate_succ, List.replicate_zero, List.cons_append, List.nil_append, List.append_nil, List.getElem?_cons_zero, List.getElem?_cons_succ, List.set_cons_zero, List.set_cons_succ, Option.some.injEq, exists_eq_left', DEnds.xd, atI_0, atI_1, atI_2, atI_3, atI_4, atI_5, atI_6, atI_7, ixN_50, ixN_51, ixN_52, ixN_53, ixN_54, ixN_30, ixN_31, ixN_32, put_same, put_put, true_and, and_true, decide_true, decide_false, Bool.not_true, Bool.not_false, Bool.false_eq_true, if_true, if_false, decide_eq_true_eq, Bool.not_eq_true', decide_eq_false_iff_not, mem_one, ex_one, and_self]
    exact ⟨a, c, B', rfl, hT, fun r T' ht h1 h2 => k _ _ ⟨r, rfl, h1, h2⟩ ht⟩
  · obtain ⟨ns, rfl, hns⟩ := ints_of (P := fun r => 0 ≤ r ∧ r < 256) hacc
    rw [List.length_map, rangeL_len] at hlen
    exact tup_rol (h _ _ hT hns (by omega))
end Lw

namespace Lw
open PySem PySem.Spec PyProof.Rows L2 VD
/-! ### equality of data without truth values -/
def clean : Nat → Dv → Prop
  | 0, _ => False
  | n + 1, d => match d with
    | .non => True
    | .int _ => True
    | .str x => PyData.strOk x = true
    | .tup xs => ∀ x ∈ xs, clean n x
    | .rol xs => ∀ x ∈ xs, clean n x
    | _ => False
theorem clean_list {n : Nat} (ih : ∀ d, clean n d → isD d = true ∧ PyData.canLay0 (py d) = true ∧ PyData.depth (py d) ≤ n) : ∀ xs : List Dv, (∀ x ∈ xs, clean n x) → isDL xs = true ∧ PyData.canLayAll0 (pyL xs) = true ∧ PyData.depthAll (pyL xs) ≤ n
  | [], _ => ⟨rfl, rfl, Nat.zero_le _⟩
  | x :: xs, h => by
    obtain ⟨a1, a2, a3⟩ := ih x (h x (by simp))
    obtain ⟨b1, b2, b3⟩ := clean_list ih xs fun y hy => h y (by simp [hy])
    refine ⟨by simp [isDL, a1, b1], by simp [pyL, PyData.canLayAll0, a2, b2], ?_⟩
    simp only [pyL, PyData.depthAll]
    omega
theorem clean_d : ∀ (n : Nat) (d : Dv), clean n d → isD d = true ∧ PyData.canLay0 (py d) = true ∧ PyData.depth (py d) ≤ n
  | 0, _, h => h.elim
  | n + 1, d, h => by
    cases d with
    | non => exact ⟨rfl, rfl, by simp [py, PyData.depth]⟩
    | int => exact ⟨rfl, rfl, by simp [py, PyData.depth]⟩
    | str x => exact ⟨rfl, by unfold clean at h; simpa [py, PyData.canLay0] using h, by simp [py, PyData.depth]⟩
    | tup xs =>
      obtain ⟨b1, b2, b3⟩ := clean_list (clean_d n) xs h
      exact ⟨by simpa [isD] using b1, by simpa [py, PyData.canLay0] using b2, by simp only [py, PyData.depth]; omega⟩
    | rol xs =>
      obtain ⟨b1, b2, b3⟩ := clean_list (clean_d n) xs h
      exact ⟨by simpa [isD] using b1, by simpa [py, PyData.canLay0] using b2, by simp only [py, PyData.depth]; omega⟩
    | _ => exact h.elim
theorem shp_clean {n : Nat} {d : Dv} (h : clean n d) (hn : n ≤ 64 := by decide) : shp d = true := by
  obtain ⟨a1, a2, a3⟩ := clean_d n d h
  unfold shp SeqAt.shaped
  rw [a1, a2]
  simp
  omega
theorem eqv_list {n m : Nat} (ih : ∀ d e, clean n d → clean m e → (eqvD d e = true ↔ d = e)) : ∀ xs ys : List Dv, (∀ x ∈ xs, clean n x) → (∀ y ∈ ys, clean m y) → (eqvL xs ys = true ↔ xs = ys)
  | [], [], _, _ => by simp [eqvL, pyL, PyData.eqvAll]
  | [], _ :: _, _, _ => by simp [eqvL, pyL, PyData.eqvAll]
  | _ :: _, [], _, _ => by simp [eqvL, pyL, PyData.eqvAll]
  | x :: xs, y :: ys, h1, h2 => by
    have a := ih x y (h1 x (by simp)) (h2 y (by simp))
    have b := eqv_list ih xs ys (fun z hz => h1 z (by simp [hz])) fun z hz => h2 z (by simp [hz])
    unfold eqvL at b ⊢
    unfold eqvD at a
    simp only [pyL, PyData.eqvAll, Bool.and_eq_true, a, b, List.cons.injEq]
theorem eqv_clean : ∀ (n m : Nat) (d e : Dv), clean n d → clean m e → (eqvD d e = true ↔ d = e)
  | 0, _, _, _, h, _ => h.elim
  | _ + 1, 0, _, _, _, h => h.elim
  | n + 1, m + 1, d, e, h1, h2 => by
    have L := fun xs ys => eqv_list (eqv_clean n m) xs ys
    unfold eqvL at L
    cases d <;> first
      | exact h1.elim
      | (cases e <;> first
        | exact h2.elim
        | (rename_i xs ys; simp only [eqvD, py, PyData.eqv, Dv.tup.injEq]; exact L xs ys h1 h2)
        | (rename_i xs ys; simp only [eqvD, py, PyData.eqv, Dv.rol.injEq]; exact L xs ys h1 h2)
        | simp [eqvD, py, PyData.eqv])
theorem eqv_same {n : Nat} {d : Dv} (h : clean n d) : eqvD d d = true := (eqv_clean n n d d h h).mpr rfl
theorem eqv_ne {n : Nat} {d e : Dv} (h : clean n d) (h2 : clean n e) (ne : d ≠ e) : eqvD d e = false := by
  cases z : eqvD d e with
  | false => rfl
  | true => exact absurd ((eqv_clean n n d e h h2).mp z) ne
theorem eqv_dec {n : Nat} {d e : Dv} {p : Prop} [Decidable p] (h : clean n d) (h2 : clean n e) (hp : d = e ↔ p) : eqvD d e = decide p := by
  rw [Bool.eq_iff_iff, eqv_clean n n d e h h2, hp, decide_eq_true_iff]
theorem clean_ints {n : Nat} {ns : List Int} : clean (n + 2) (.tup (List.map Dv.int ns)) := by
  intro x hx
  obtain ⟨i, _, rfl⟩ := List.mem_map.mp hx
  trivial
theorem clean_intsL {n : Nat} {ns : List Int} : clean (n + 2) (.rol (List.map Dv.int ns)) := by
  intro x hx
  obtain ⟨i, _, rfl⟩ := List.mem_map.mp hx
  trivial
theorem clean_tup0 {n : Nat} : clean (n + 1) (.tup []) := by intro x hx; cases hx
theorem clean_cons {n : Nat} {d : Dv} {xs : List Dv} (h : clean n d) (h2 : clean (n + 1) (.tup xs)) : clean (n + 1) (.tup (d :: xs)) := by
  intro x hx
  rcases List.mem_cons.mp hx with rfl | hx
  · exact h
  · exact h2 x hx
theorem ints_inj {xs ys : List Int} : List.map Dv.int xs = List.map Dv.int ys ↔ xs = ys := by
  constructor
  · intro h
    have : (List.map Dv.int xs).map (fun d => match d with | .int i => i | _ => 0) = (List.map Dv.int ys).map (fun d => match d with | .int i => i | _ => 0) := by rw [h]
    simpa [List.map_map, Function.comp_def] using this
  · rintro rfl; rfl
/-- == of data of these kinds that are not lists in the store -/
theorem eqG_of {f : Bool → Bool} {n : Nat} {x y d e : Dv} {S : Sto} {Q : QD} {p : Prop} [Decidable p] (hx : valOf x S = d) (hy : valOf y S = e) (h : clean n d) (h2 : clean n e) (hp : d = e ↔ p) (q : Q (.bl (f (decide p))) S) (hn : n ≤ 64 := by decide) : rdEqG f x y S Q := by
  unfold rdEqG
  split
  · have e1 : (p ↔ _) := hp.symm
    simp only [VD.valOf] at hx hy
    subst hx; subst hy
    simp only [Dv.int.injEq] at hp
    rw [show decide _ = decide p from decide_eq_decide.mpr hp]; exact q
  · simp only [VD.valOf] at hx hy
    subst hx
    cases n with
    | zero => exact h.elim
    | succ n => exact h.elim
  · simp only [VD.valOf] at hx hy
    subst hx; subst hy
    simp only [Dv.str.injEq] at hp
    rw [show decide _ = decide p from decide_eq_decide.mpr hp]; exact q
  · rw [hx, hy, eqv_dec h h2 hp]
    exact ⟨⟨shp_clean h hn, shp_clean h2 hn⟩, q⟩
theorem atI_ints {xs : List Int} {b : Nat} {v : Int} (hv : xs[b]? = some v) : atI (List.map Dv.int xs) (b : Int) = some (.int v) := by
  rw [atI_nn (by omega), Int.toNat_natCast, List.getElem?_map, hv]; rfl
theorem len_law (A : Ad) : ∀ ds S Q X, spLaw ds S Q X → ds.length = 1 := by rintro _ _ _ _ ⟨_, rfl, _⟩; rfl
end Lw

--CLS Reader
namespace Lw
open PySem PySem.Spec PyProof.Rows L2 VD
/-! ### runs of inputs -/
abbrev Runs := List (Int × Int)
def addRun (acc : Runs) (x : Int) : Runs := match acc.getLast? with
  | some (y, m) => if y = x then acc.dropLast ++ [(y, m + 1)] else acc ++ [(x, 1)]
  | none => acc ++ [(x, 1)]
def runsF (xs : List Int) : Runs := xs.foldl addRun []
def runB (rs : Runs) : List Int := figs rs.length ++ rs.flatMap fun p => p.1 :: figs p.2
def expand (rs : Runs) : List Int := rs.flatMap fun p => List.replicate p.2.toNat p.1
def prD (p : Int × Int) : Dv := .tup [.int p.1, .int p.2]
theorem addRun_last (acc : Runs) (y m x : Int) : addRun (acc ++ [(y, m)]) x = if y = x then acc ++ [(y, m + 1)] else acc ++ [(y, m), (x, 1)] := by
  unfold addRun
  rw [List.getLast?_concat]
  dsimp only
  split
  · rw [List.dropLast_concat]
  · rw [List.append_assoc]; rfl
theorem runsF_snoc (xs : List Int) (x : Int) : runsF (xs ++ [x]) = addRun (runsF xs) x := by
  unfold runsF
  rw [List.foldl_append]
  rfl
/-- the last run of some inputs, and those ahead -/
theorem runsF_ends (xs : List Int) (h : xs ≠ []) : ∃ R y m, runsF xs = R ++ [(y, m)] ∧ xs.getLast? = some y := by
  induction xs using revInd with
  | nil => exact absurd rfl h
  | snoc xs x ih =>
    rw [runsF_snoc]
    by_cases hx : xs = []
    · subst hx
      exact ⟨[], x, 1, rfl, by simp⟩
    · obtain ⟨R, y, m, e, _⟩ := ih hx
      rw [e, addRun_last]
      split
      · rename_i e2
        subst e2
        exact ⟨R, y, m + 1, rfl, by simp⟩
      · exact ⟨R ++ [(y, m)], x, 1, by simp, by simp⟩
theorem runsF_len (xs : List Int) : (runsF xs).length ≤ xs.length := by
  induction xs using revInd with
  | nil => exact Nat.le_refl _
  | snoc xs x ih =>
    rw [runsF_snoc, List.length_append]
    unfold addRun
    split
    · split
      · rename_i e _
        have hne : runsF xs ≠ [] := fun z => by rw [z] at e; cases e
        have : 0 < (runsF xs).length := List.length_pos_iff.mpr hne
        simp
        omega
      · simp; omega
    · simp; omega
/-- runs that stand as they must -/
def Canon (rs : Runs) : Prop := (∀ p ∈ rs, 1 ≤ p.2) ∧ ∀ i p q, rs[i]? = some p → rs[i + 1]? = some q → p.1 ≠ q.1
theorem expand_append (a b : Runs) : expand (a ++ b) = expand a ++ expand b := by unfold expand; rw [List.flatMap_append]
theorem expand_one (p : Int × Int) : expand [p] = List.replicate p.2.toNat p.1 := by unfold expand; simp
theorem canon_init {a b : Runs} (h : Canon (a ++ b)) : Canon a := by
  refine ⟨fun p hp => h.1 p (List.mem_append_left _ hp), fun i p q h1 h2 => ?_⟩
  have l2 := (List.getElem?_eq_some_iff.mp h2).1
  exact h.2 i p q (by rw [List.getElem?_append_left (by omega)]; exact h1) (by rw [List.getElem?_append_left l2]; exact h2)
theorem expand_last {rs : Runs} {p : Int × Int} (h : Canon (rs ++ [p])) : (expand (rs ++ [p])).getLast? = some p.1 := by
  rw [expand_append, expand_one]
  have := h.1 p (by simp)
  obtain ⟨k, hk⟩ : ∃ k, p.2.toNat = k + 1 := ⟨p.2.toNat - 1, by omega⟩
  rw [hk, List.replicate_succ', ← List.append_assoc, List.getLast?_concat]
/-- putting one run behind others, item by item -/
theorem runsF_rep {xs : List Int} {R : Runs} {y m : Int} (h : runsF xs = R ++ [(y, m)]) : ∀ k : Nat, runsF (xs ++ List.replicate k y) = R ++ [(y, m + k)]
  | 0 => by simpa using h
  | k + 1 => by
    rw [List.replicate_succ', ← List.append_assoc, runsF_snoc, runsF_rep h k, addRun_last, if_pos rfl]
    congr 3
    push_cast
    omega
theorem runsF_expand (rs : Runs) (h : Canon rs) : runsF (expand rs) = rs := by
  induction rs using revInd with
  | nil => rfl
  | snoc rs p ih =>
    have h0 := ih (canon_init h)
    obtain ⟨x, m⟩ := p
    have hm : 1 ≤ m := h.1 (x, m) (by simp)
    obtain ⟨k, hk⟩ : ∃ k : Nat, m.toNat = k + 1 := ⟨m.toNat - 1, by omega⟩
    rw [expand_append, expand_one]
    dsimp only
    rw [hk, List.replicate_succ, ← List.singleton_append, ← List.append_assoc]
    have e1 : runsF (expand rs ++ [x]) = rs ++ [(x, 1)] := by
      rw [runsF_snoc, h0]
      rcases List.eq_nil_or_concat rs with rfl | ⟨rs', q, rfl⟩
      · rfl
      · obtain ⟨y, n⟩ := q
        rw [List.concat_eq_append] at *
        rw [addRun_last, if_neg]
        · simp
        · exact h.2 rs'.length (y, n) (x, m) (by simp) (by simp)
    rw [runsF_rep e1 k]
    congr 3
    omega
theorem canon_runsF (xs : List Int) : Canon (runsF xs) ∧ expand (runsF xs) = xs := by
  induction xs using revInd with
  | nil => exact ⟨⟨fun p hp => (by cases hp), fun i p q h => (by simp [runsF] at h)⟩, rfl⟩
  | snoc xs x ih =>
    rw [runsF_snoc]
    rcases List.eq_nil_or_concat (runsF xs) with e | ⟨R, q, e⟩
    · rw [e] at ih ⊢
      obtain rfl : xs = [] := ih.2.symm
      refine ⟨⟨fun p hp => ?_, fun i p q h1 h2 => ?_⟩, rfl⟩
      · simp [addRun] at hp; subst hp; exact Int.le_refl 1
      · simp [addRun] at h2
    · obtain ⟨y, m⟩ := q
      rw [List.concat_eq_append] at e
      rw [e] at ih ⊢
      obtain ⟨hc, he⟩ := ih
      have hm : 1 ≤ m := hc.1 (y, m) (by simp)
      rw [addRun_last]
      split
      · rename_i e2
        subst e2
        refine ⟨⟨fun p hp => ?_, fun i p q h1 h2 => ?_⟩, ?_⟩
        · rcases List.mem_append.mp hp with hp | hp
          · exact hc.1 p (List.mem_append_left _ hp)
          · simp at hp; subst hp; show 1 ≤ m + 1; omega
        · by_cases hi : i + 1 < R.length
          · exact hc.2 i p q (by rw [List.getElem?_append_left (by omega)] at h1 ⊢; exact h1) (by rw [List.getElem?_append_left hi] at h2 ⊢; exact h2)
          · have l2 := (List.getElem?_eq_some_iff.mp h2).1
            simp at l2
            have e3 : i + 1 = R.length := by omega
            rw [e3] at h2
            simp at h2
            subst h2
            have h1' : (R ++ [(y, m)])[i]? = some p := by rw [List.getElem?_append_left (by omega)] at h1 ⊢; exact h1
            exact hc.2 i p (y, m) h1' (by rw [e3]; simp)
        · rw [← he, expand_append, expand_append, expand_one, expand_one]
          dsimp only
          rw [show (m + 1).toNat = m.toNat + 1 by omega, List.replicate_succ', List.append_assoc]
      · rename_i e2
        refine ⟨⟨fun p hp => ?_, fun i p q h1 h2 => ?_⟩, ?_⟩
        · simp at hp
          rcases hp with hp | rfl | rfl
          · exact hc.1 p (List.mem_append_left _ hp)
          · exact hm
          · show (1 : Int) ≤ 1; omega
        · have l2 := (List.getElem?_eq_some_iff.mp h2).1
          simp at l2
          by_cases hi : i + 1 ≤ R.length
          · have f1 : (R ++ [(y, m), (x, 1)])[i]? = (R ++ [(y, m)])[i]? := by
              rw [show R ++ [(y, m), (x, 1)] = (R ++ [(y, m)]) ++ [(x, 1)] by simp, List.getElem?_append_left (by simp; omega)]
            have f2 : (R ++ [(y, m), (x, 1)])[i + 1]? = (R ++ [(y, m)])[i + 1]? := by
              rw [show R ++ [(y, m), (x, 1)] = (R ++ [(y, m)]) ++ [(x, 1)] by simp, List.getElem?_append_left (by simp; omega)]
            rw [f1] at h1; rw [f2] at h2
            exact hc.2 i p q h1 h2
          · have e3 : i = R.length := by omega
            subst e3
            simp at h1 h2
            subst h1 h2
            exact e2
        · rw [show R ++ [(y, m), (x, 1)] = (R ++ [(y, m)]) ++ [(x, 1)] by simp, expand_append, he, expand_one]
          rfl
end Lw

namespace Lw
open PySem PySem.Spec PyProof.Rows L2 VD
/-! ### what is read -/
def badRun (found : List Int) (m x : Int) : Prop := m = 0 ∨ 100000 < (found.length : Int) + m ∨ found.getLast? = some x
instance (f : List Int) (m x : Int) : Decidable (badRun f m x) := by unfold badRun; infer_instance
abbrev Told := Except Int (List Int × Nat)
def parseR : Nat → List Int → Nat → List Int → Told
  | 0, _, here, found => .ok (found, here)
  | k + 1, row, here, found => match row[here]? with
    | none => .error here
    | some x => match readO row (here + 1) with
      | none => .error (here + 1)
      | some (m, b) => if badRun found m x then .error here else parseR k row b (found ++ List.replicate m.toNat x)
def parse (row : List Int) (at_ : Nat) : Told := match readO row at_ with
  | none => .error at_
  | some (n, h) => parseR n.toNat row h []
/-- what stands there is just the figures -/
theorem figs_of_fnd : ∀ (k : Nat) (l : List Int) (i : Nat), fnd (k + 1) l = some i → (∀ b ∈ l, 0 ≤ b ∧ b < 256) → ¬ (0 < i ∧ l[i]? = some 0) → figF k (val (l.take (i + 1))) = l.take (i + 1)
  | k, [], i, h, _, _ => by cases h
  | k, b :: r, i, h, hb, hn => by
    unfold fnd at h
    have b0 := hb b (by simp)
    split at h
    · rename_i hlt
      cases h
      have e : val (List.take (0 + 1) (b :: r)) = b := by simp [val]; omega
      rw [e]
      cases k with
      | zero => rfl
      | succ k => unfold figF; rw [if_pos hlt]; rfl
    · rename_i hge
      rw [Option.map_eq_some_iff] at h
      obtain ⟨j, h1, rfl⟩ := h
      cases k with
      | zero => cases h1
      | succ k =>
        have ih := figs_of_fnd k r j h1 (fun c hc => hb c (by simp [hc])) (fun z => hn ⟨by omega, by simpa using z.2⟩)
        rw [List.take_succ_cons]
        show figF (k + 1) (b % 128 + 128 * val (r.take (j + 1))) = _
        have hv := (val_in (r.take (j + 1))).1
        have hpos : 0 < val (r.take (j + 1)) := by
          have hl := fnd_lt _ _ _ h1
          have hz : r[j]? = some 0 → False := fun z => hn ⟨by omega, by simpa using z⟩
          have hsn : r.take (j + 1) = r.take j ++ [r[j]] := by rw [List.take_add_one, List.getElem?_eq_getElem hl]; rfl
          rw [hsn, val_snoc]
          have h2 := (val_in (r.take j)).1
          have c0 := hb r[j] (by simp)
          have c1 : r[j] < 128 := by
            have : ∀ (k : Nat) (l : List Int) (i : Nat) (hi : i < l.length), fnd k l = some i → l[i] < 128 := by
              intro k
              induction k with
              | zero => intro l i hi h; cases h
              | succ k ih =>
                intro l i hi h
                cases l with
                | nil => cases h
                | cons c l =>
                  unfold fnd at h
                  split at h
                  · rename_i q; cases h; exact q
                  · rw [Option.map_eq_some_iff] at h
                    obtain ⟨m, h3, rfl⟩ := h
                    simpa using ih l m (by simpa using hi) h3
            exact this _ r j hl h1
          have c2 : r[j] ≠ 0 := fun z => hz (by rw [List.getElem?_eq_getElem hl, z])
          have c3 : r[j] % 128 = r[j] := by omega
          rw [c3]
          have : (0 : Int) < 128 ^ (r.take j).length := Int.pow_pos (by decide)
          have : (0 : Int) < 128 ^ (r.take j).length * r[j] := Int.mul_pos this (by omega)
          omega
        unfold figF
        rw [if_neg (by omega)]
        have e1 : (b % 128 + 128 * val (r.take (j + 1))) / 128 = val (r.take (j + 1)) := by omega
        rw [e1, ih]
        congr 1
        omega
theorem readO_row {xs : List Int} {i : Nat} {v : Int} {b : Nat} (hx : ∀ n ∈ xs, 0 ≤ n ∧ n < 256) (h : readO xs i = some (v, b)) : (xs.drop i).take (b - i) = figs v := by
  unfold readO at h
  split at h
  · cases h
  · rename_i j hj
    split at h
    · cases h
    · rename_i hn
      cases h
      rw [show i + j + 1 - i = j + 1 by omega]
      exact (figs_of_fnd 9 _ j hj (fun n hm => hx n (List.mem_of_mem_drop hm)) fun z => hn (.inl z)).symm
theorem drop_take_split (xs : List Int) (a b c : Nat) (h1 : a ≤ b) (h2 : b ≤ c) : (xs.drop a).take (c - a) = (xs.drop a).take (b - a) ++ (xs.drop b).take (c - b) := by
  have : c - a = (b - a) + (c - b) := by omega
  rw [this, List.take_add, List.drop_drop, show a + (b - a) = b by omega]
/-- runs that are read stand there -/
theorem parseR_ok {row : List Int} (hx : ∀ n ∈ row, 0 ≤ n ∧ n < 256) : ∀ (k here : Nat) (found : List Int) (rs0 : Runs) (ys : List Int) (b : Nat), Canon rs0 → expand rs0 = found → (∀ n ∈ found, 0 ≤ n ∧ n < 256) → found.length ≤ 100000 → here ≤ row.length →
    parseR k row here found = .ok (ys, b) → ∃ rs, Canon (rs0 ++ rs) ∧ rs.length = k ∧ ys = found ++ expand rs ∧ (row.drop here).take (b - here) = rs.flatMap (fun p => p.1 :: figs p.2) ∧ here ≤ b ∧ b ≤ row.length ∧ (∀ n ∈ ys, 0 ≤ n ∧ n < 256) ∧ ys.length ≤ 100000
  | 0, here, found, rs0, ys, b, hc, he, hf, hl, hh, h => by
    cases h
    exact ⟨[], by simpa using hc, rfl, by simp [expand], by simp, Nat.le_refl _, hh, hf, hl⟩
  | k + 1, here, found, rs0, ys, b, hc, he, hf, hl, hh, h => by
    unfold parseR at h
    split at h
    · cases h
    · rename_i x hxx
      split at h
      · cases h
      · rename_i m c hm
        split at h
        · cases h
        · rename_i hbad
          have hlt := (List.getElem?_eq_some_iff.mp hxx).1
          have hxe : row[here] = x := (List.getElem?_eq_some_iff.mp hxx).2
          have hxb := hx x (hxe ▸ List.getElem_mem hlt)
          obtain ⟨m0, m1, m2, m3⟩ := readO_ok hm
          unfold badRun at hbad
          have b1 : m ≠ 0 := fun z => hbad (.inl z)
          have b2 : ¬ 100000 < (found.length : Int) + m := fun z => hbad (.inr (.inl z))
          have b3 : found.getLast? ≠ some x := fun z => hbad (.inr (.inr z))
          have hc2 : Canon (rs0 ++ [(x, m)]) := by
            refine ⟨fun p hp => ?_, fun i p q h1 h2 => ?_⟩
            · rcases List.mem_append.mp hp with hp | hp
              · exact hc.1 p hp
              · simp at hp; subst hp; show 1 ≤ m; omega
            · by_cases hi : i + 1 < rs0.length
              · exact hc.2 i p q (by rw [List.getElem?_append_left (by omega)] at h1; exact h1) (by rw [List.getElem?_append_left hi] at h2; exact h2)
              · have l2 := (List.getElem?_eq_some_iff.mp h2).1
                simp at l2
                have e3 : i + 1 = rs0.length := by omega
                rw [e3] at h2
                simp at h2
                subst h2
                rw [List.getElem?_append_left (by omega)] at h1
                intro z
                refine b3 ?_
                rcases List.eq_nil_or_concat rs0 with e | ⟨R, q, e⟩
                · rw [e] at e3; simp at e3
                · rw [List.concat_eq_append] at e
                  subst e
                  have e4 : i = R.length := by simp at e3; omega
                  rw [e4] at h1
                  simp at h1
                  subst h1
                  rw [← he, expand_last hc]
                  exact congrArg some z
          obtain ⟨rs, g1, g2, g3, g4, g5, g6, g7, g8⟩ := parseR_ok hx k c (found ++ List.replicate m.toNat x) (rs0 ++ [(x, m)]) ys b hc2 (by rw [expand_append, he, expand_one])
            (fun n hn => by
              rcases List.mem_append.mp hn with hn | hn
              · exact hf n hn
              · rw [(List.mem_replicate.mp hn).2]; exact hxb) (by simp; omega) (by omega) h
          refine ⟨(x, m) :: rs, by simpa using g1, by simp [g2], ?_, ?_, by omega, g6, g7, g8⟩
          · rw [g3, List.append_assoc, ← expand_one (x, m), ← expand_append]; rfl
          · rw [drop_take_split row here c b (by omega) g5, g4, List.flatMap_cons]
            congr 1
            rw [show c - here = (c - (here + 1)) + 1 by omega, List.drop_eq_getElem_cons hlt, List.take_succ_cons, hxe, readO_row hx hm]
theorem parse_ok {row : List Int} {i : Nat} {ys : List Int} {b : Nat} (hx : ∀ n ∈ row, 0 ≤ n ∧ n < 256) (hi : i ≤ row.length) (hl : row.length < 9223372036854775808) (h : parse row i = .ok (ys, b)) :
    runB (runsF ys) = (row.drop i).take (b - i) ∧ i ≤ b ∧ b ≤ row.length ∧ (∀ n ∈ ys, 0 ≤ n ∧ n < 256) ∧ ys.length ≤ 100000 := by
  unfold parse at h
  split at h
  · cases h
  · rename_i n c hn
    obtain ⟨m0, m1, m2, m3⟩ := readO_ok hn
    obtain ⟨rs, g1, g2, g3, g4, g5, g6, g7, g8⟩ := parseR_ok hx n.toNat c [] [] ys b ⟨fun p hp => (by cases hp), fun i p q h => (by simp at h)⟩ rfl (fun n hn => by cases hn) (by simp) m3 h
    refine ⟨?_, by omega, g6, g7, g8⟩
    rw [List.nil_append] at g1 g3
    rw [g3, runsF_expand rs g1]
    unfold runB
    rw [← g4, g2, show ((n.toNat : Nat) : Int) = n by omega, ← readO_row hx hn]
    exact (drop_take_split row i c b (by omega) g5).symm
/-- runs written are read back -/
theorem parseR_row (tail : List Int) : ∀ (rs rs0 : Runs) (pre : List Int), Canon (rs0 ++ rs) → (∀ p ∈ rs, p.2 < 18446744073709551616) → (expand (rs0 ++ rs)).length ≤ 100000 →
    parseR rs.length (pre ++ rs.flatMap (fun p => p.1 :: figs p.2) ++ tail) pre.length (expand rs0) = .ok (expand (rs0 ++ rs), pre.length + (rs.flatMap (fun p => p.1 :: figs p.2)).length)
  | [], rs0, pre, hc, hb, hl => by simp [parseR]
  | (x, m) :: rs, rs0, pre, hc, hb, hl => by
    have hm : 1 ≤ m := hc.1 (x, m) (by simp)
    have hm2 : m < 18446744073709551616 := hb (x, m) (by simp)
    have e0 : pre ++ List.flatMap (fun p => p.1 :: figs p.2) ((x, m) :: rs) ++ tail = (pre ++ [x]) ++ figs m ++ (List.flatMap (fun p => p.1 :: figs p.2) rs ++ tail) := by simp
    have e1 : pre ++ List.flatMap (fun p => p.1 :: figs p.2) ((x, m) :: rs) ++ tail = (pre ++ [x] ++ figs m) ++ List.flatMap (fun p => p.1 :: figs p.2) rs ++ tail := by simp
    have hr : readO ((pre ++ [x]) ++ figs m ++ (List.flatMap (fun p => p.1 :: figs p.2) rs ++ tail)) (pre ++ [x]).length = some (m, (pre ++ [x]).length + (figs m).length) := readO_figs _ _ m (by omega) hm2
    have hnb : ¬ badRun (expand rs0) m x := by
      rintro (z | z | z)
      · omega
      · rw [expand_append] at hl
        have : expand ((x, m) :: rs) = List.replicate m.toNat x ++ expand rs := by unfold expand; simp
        rw [this] at hl
        simp at hl
        omega
      · rcases List.eq_nil_or_concat rs0 with e | ⟨R, q, e⟩
        · subst e; simp [expand] at z
        · rw [List.concat_eq_append] at e
          subst e
          have hc0 : Canon (R ++ [q]) := canon_init hc
          rw [expand_last hc0] at z
          refine hc.2 R.length q (x, m) (by simp) (by simp) ?_
          exact Option.some.inj z
    rw [List.length_cons]
    unfold parseR
    have hx : (pre ++ List.flatMap (fun p => p.1 :: figs p.2) ((x, m) :: rs) ++ tail)[pre.length]? = some x := by simp
    rw [hx]
    dsimp only
    have hr2 : readO (pre ++ List.flatMap (fun p => p.1 :: figs p.2) ((x, m) :: rs) ++ tail) (pre.length + 1) = some (m, (pre ++ [x] ++ figs m).length) := by
      rw [e0]
      have := hr
      rw [show (pre ++ [x]).length = pre.length + 1 by simp] at this
      rw [this]
      simp
      omega
    rw [hr2]
    dsimp only
    rw [if_neg hnb, e1]
    have ih := parseR_row tail rs (rs0 ++ [(x, m)]) (pre ++ [x] ++ figs m) (by simpa using hc) (fun p hp => hb p (by simp [hp])) (by simpa using hl)
    rw [expand_append, expand_one] at ih
    rw [ih]
    congr 2
    · simp [expand]
    · simp; omega
theorem parse_row (pre tail xs : List Int) (hl : xs.length ≤ 100000) : parse (pre ++ runB (runsF xs) ++ tail) pre.length = .ok (xs, pre.length + (runB (runsF xs)).length) := by
  obtain ⟨hc, he⟩ := canon_runsF xs
  have hn := runsF_len xs
  unfold parse runB
  have hr := readO_figs pre ((runsF xs).flatMap (fun p => p.1 :: figs p.2) ++ tail) (runsF xs).length (by omega) (by omega)
  rw [show pre ++ (figs ((runsF xs).length : Int) ++ (runsF xs).flatMap (fun p => p.1 :: figs p.2)) ++ tail = pre ++ figs ((runsF xs).length : Int) ++ ((runsF xs).flatMap (fun p => p.1 :: figs p.2) ++ tail) by simp, hr]
  dsimp only
  have key := parseR_row tail (runsF xs) [] (pre ++ figs ((runsF xs).length : Int)) (by simpa using hc) (fun p hp => by
    have hm : p.2.toNat ≤ xs.length := by
      rw [← he]
      obtain ⟨s, t, e⟩ := List.append_of_mem hp
      rw [e, expand_append]
      have : expand (p :: t) = List.replicate p.2.toNat p.1 ++ expand t := by unfold expand; simp
      rw [this]
      simp
      omega
    omega) (by simpa [he] using hl)
  rw [List.nil_append, he] at key
  rw [Int.toNat_natCast]
  have e2 : (pre ++ figs ((runsF xs).length : Int)).length = pre.length + (figs ((runsF xs).length : Int)).length := by simp
  rw [e2] at key
  rw [show pre ++ figs ((runsF xs).length : Int) ++ ((runsF xs).flatMap (fun p => p.1 :: figs p.2) ++ tail) = pre ++ figs ((runsF xs).length : Int) ++ (runsF xs).flatMap (fun p => p.1 :: figs p.2) ++ tail by simp]
  refine key.trans ?_
  simp
  omega
end Lw

--CLS Reader
namespace Lw
open PySem PySem.Spec PyProof.Rows L2 VD
/-! ### inputs -/
def isInps (d : Dv) : Bool := allT 100000 (fun x => within x 0 255) d
theorem isInps_ints {ns : List Int} (h1 : ns.length ≤ 100000) (h2 : ∀ n ∈ ns, 0 ≤ n ∧ n < 256) : isInps (.tup (List.map Dv.int ns)) = true := by
  unfold isInps allT
  dsimp only
  rw [Bool.and_eq_true, List.length_map, List.all_map]
  refine ⟨by simp; omega, List.all_eq_true.mpr fun n hn => ?_⟩
  have := h2 n hn
  simp [within]
  omega
def sp_is_input (A : Ad) : SpD := fun ds S Q _ => ∃ d, ds = [d] ∧ known A S d ∧ Q (.bl (within d 0 255)) S
theorem len_is_input (A : Ad) : ∀ ds S Q X, sp_is_input A ds S Q X → ds.length = 1 := by rintro _ _ _ _ ⟨_, rfl, _⟩; rfl
def r_is_input (A : Ad) : DS := (dRet (dCall (sp_is_below A) (dCons (dVar 0) (dCons (dC (.int 256)) dNil))))
theorem rd_is_input (A : Ad) : Rd (r_is_input A) 1 (sp_is_input A) := by
  rintro ds S Q X ⟨d, rfl, hk, h⟩
  unfold r_is_input
  simp only [dSeq, dAsg, dRet, dRetN, dDrop, dRaise, dBreak, dCont, dPar, dAug, dFor, dNext, dSetF, dAugF, dRaiseF, dIfS, dTest, dOp, dVar, dC, dCB, dCons, dNil, dCall, dAndV, dOrV, dNotV, dAndT, dOrT, dNotT, dIf, dTup, dLst, dLstV, dSl, dSlV, rdSlV, oSome, oNone, dNeg, gN, gT, gConsD, gNilD, gSubD, gFldD, dChain, dLc, dBM, isLst, iSeqD, iR1, iR2, iR3, dYes, rdAddV, rdMulV, rdSub, rdDiv, rdMod, rdPow, rdIAdd, rdCmp, rdIsN, isn_non, isn_bl, isn_int, isn_str, isn_ref, isn_tup, isn_rol, isn_obj, rdEqG, rdIx_tup, rdIx_rol, rdIx_put, rdSet, rdLen_tup, rdLen_rol, rdLen_str, rdLen_put, rdInt1, rdInt, rdInt2, rdAppend, rdExt, rdPopAt, rdMaxL, rdMinL, rdListV, rdIsB, isBlV, rdStrI, rdIntS, dFrz, dFld, insOf_put, dMeth, lstOf_rol, lstOf_put, seqOf_tup, seqOf_rol, seqOf_put, frz_tup, frz_rol, frz_int, frz_bl, frz_non, frz_str, frz_obj, startN, wipeD, List.map_cons, List.map_nil, List.length_cons, List.length_nil, Nat.zero_add, Nat.sub_self, Nat.reduceAdd, Nat.reduceSub, List.replicate_succ, List.replicate_zero, List.cons_append, List.nil_append, List.append_nil, List.getElem?_cons_zero, List.getElem?_cons_succ, List.set_cons_zero, List.set_cons_succ, Option.some.injEq, exists_eq_left', DEnds.xd, atI_0, atI_1, atI_2, atI_3, atI_4, atI_5, atI_6, atI_7, ixN_50, ixN_51, ixN_52, ixN_53, ixN_54, ixN_30, ixN_31, ixN_32, put_same, put_put, true_and, and_true, decide_true, decide_false, Bool.not_true, Bool.not_false, Bool.false_eq_true, if_true, if_false, decide_eq_true_eq, Bool.not_eq_true', decide_eq_false_iff_not, mem_one, ex_one, and_self, i_Reader, l_Reader, h_Reader_next_number, h_Reader_next_integer, h_Reader_next_integers, h_Reader_next_byte, h_Reader_finish, g_Reader_row, p_Reader_row, k_Reader_row, g_Reader_at, p_Reader_at, k_Reader_at, g_Reader_last, p_Reader_last, k_Reader_last]
  exact ⟨d, 256, rfl, hk, h⟩
def sp_are_inputs (A : Ad) : SpD := fun ds S Q _ => ∃ d, ds = [d] ∧ knownL A S d ∧ Q (.bl (isInps d)) S
theorem len_are_inputs (A : Ad) : ∀ ds S Q X, sp_are_inputs A ds S Q X → ds.length = 1 := by rintro _ _ _ _ ⟨_, rfl, _⟩; rfl
def r_are_inputs (A : Ad) : DS := (dRet (dAndV (dCB (rdIsi A.ot) (dCons (dVar 0) (dCons (dC (.ty "tuple")) dNil))) (dAndV (dOp rdLe (dCB rdLen (dCons (dVar 0) dNil)) (dC (.int 100000))) (dCB rdAll (dCons (dFrz (dLc (iSeqD (dVar 0)) (gN 1) dYes (dCall (sp_is_input A) (dCons (dVar 1) dNil)) [1])) dNil)))))
theorem rd_are_inputs (A : Ad) : Rd (r_are_inputs A) 2 (sp_are_inputs A) := by
  rintro ds S Q X ⟨d, rfl, ⟨hk, hl⟩, h⟩
  unfold r_are_inputs
  simp only [dSeq, dAsg, dRet, dRetN, dDrop, dRaise, dBreak, dCont, dPar, dAug, dFor, dNext, dSetF, dAugF, dRaiseF, dIfS, dTest, dOp, dVar, dC, dCB, dCons, dNil, dCall, dAndV, dOrV, dNotV, dAndT, dOrT, dNotT, dIf, dTup, dLst, dLstV, dSl, dSlV, rdSlV, oSome, oNone, dNeg, gN, gT, gConsD, gNilD, gSubD, gFldD, dChain, dLc, dBM, isLst, iSeqD, iR1, iR2, iR3, dYes, rdAddV, rdMulV, rdSub, rdDiv, rdMod, rdPow, rdIAdd, rdCmp, rdIsN, isn_non, isn_bl, isn_int, isn_str, isn_ref, isn_tup, isn_rol, isn_obj, rdEqG, rdIx_tup, rdIx_rol, rdIx_put, rdSet, rdLen_tup, rdLen_rol, rdLen_str, rdLen_put, rdInt1, rdInt, rdInt2, rdAppend, rdExt, rdPopAt, rdMaxL, rdMinL, rdListV, rdIsB, isBlV, rdStrI, rdIntS, dFrz, dFld, insOf_put, dMeth, lstOf_rol, lstOf_put, seqOf_tup, seqOf_rol, seqOf_put, frz_tup, frz_rol, frz_int, frz_bl, frz_non, frz_str, frz_obj, startN, wipeD, List.map_cons, List.map_nil, List.length_cons, List.length_nil, Nat.zero_add, Nat.sub_self, Nat.reduceAdd, Nat.reduceSub, List.replicate_succ, List.replicate_zero, List.cons_append, List.nil_append, List.append_nil, List.getElem?_cons_zero, List.getElem?_cons_succ, List.set_cons_zero, List.set_cons_succ, Option.some.injEq, exists_eq_left', DEnds.xd, atI_0, atI_1, atI_2, atI_3, atI_4, atI_5, atI_6, atI_7, ixN_50, ixN_51, ixN_52, ixN_53, ixN_54, ixN_30, ixN_31, ixN_32, put_same, put_put, true_and, and_true, decide_true, decide_false, Bool.not_true, Bool.not_false, Bool.false_eq_true, if_true, if_false, decide_eq_true_eq, Bool.not_eq_true', decide_eq_false_iff_not, mem_one, ex_one, and_self, i_Reader, l_Reader, h_Reader_next_number, h_Reader_next_integer, h_Reader_next_integers, h_Reader_next_byte, h_Reader_finish, g_Reader_row, p_Reader_row, k_Reader_row, g_Reader_at, p_Reader_at, k_Reader_at, g_Reader_last, p_Reader_last, k_Reader_last]
  refine isi_tuple hk ?_
  cases d with
  | tup xs =>
    unfold isTup
    dsimp only
    simp only [dSeq, dAsg, dRet, dRetN, dDrop, dRaise, dBreak, dCont, dPar, dAug, dFor, dNext, dSetF, dAugF, dRaiseF, dIfS, dTest, dOp, dVar, dC, dCB, dCons, dNil, dCall, dAndV, dOrV, dNotV, dAndT, dOrT, dNotT, dIf, dTup, dLst, dLstV, dSl, dSlV, rdSlV, oSome, oNone, dNeg, gN, gT, gConsD, gNilD, gSubD, gFldD, dChain, dLc, dBM, isLst, iSeqD, iR1, iR2, iR3, dYes, rdAddV, rdMulV, rdSub, rdDiv, rdMod, rdPow, rdIAdd, rdCmp, rdIsN, isn_non, isn_bl, isn_int, isn_str, isn_ref, isn_tup, isn_rol, isn_obj, rdEqG, rdIx_tup, rdIx_rol, rdIx_put, rdSet, rdLen_tup, rdLen_rol, rdLen_str, rdLen_put, rdInt1, rdInt, rdInt2, rdAppend, rdExt, rdPopAt, rdMaxL, rdMinL, rdListV, rdIsB, isBlV, rdStrI, rdIntS, dFrz, dFld, insOf_put, dMeth, lstOf_rol, lstOf_put, seqOf_tup, seqOf_rol, seqOf_put, frz_tup, frz_rol, frz_int, frz_bl, frz_non, frz_str, frz_obj, startN, wipeD, List.map_cons, List.map_nil, List.length_cons, List.length_nil, Nat.zero_add, Nat.sub_self, Nat.reduceAdd, Nat.reduceSub, List.replicate_succ, List.replicate_zero, List.cons_append, List.nil_append, List.append_nil, List.getElem?_cons_zero, List.getElem?_cons_succ, List.set_cons_zero, List.set_cons_succ, Option.some.injEq, exists_eq_left', DEnds.xd, atI_0, atI_1, atI_2, atI_3, atI_4, atI_5, atI_6, atI_7, ixN_50, ixN_51, ixN_52, ixN_53, ixN_54, ixN_30, ixN_31, ixN_32, put_same, put_put, true_and, and_true, decide_true, decide_false, Bool.not_true, Bool.not_false, Bool.false_eq_true, if_true, if_false, decide_eq_true_eq, Bool.not_eq_true', decide_eq_false_iff_not, mem_one, ex_one, and_self, i_Reader, l_Reader, h_Reader_next_number, h_Reader_next_integer, h_Reader_next_integers, h_Reader_next_byte, h_Reader_finish, g_Reader_row, p_Reader_row, k_Reader_row, g_Reader_at, p_Reader_at, k_Reader_at, g_Reader_last, p_Reader_last, k_Reader_last]
    unfold isInps allT at h
    dsimp only at h
    by_cases h1 : (xs.length : Int) ≤ (100000 : Nat)
    · rw [decide_eq_true h1, Bool.true_and] at h
      rw [decide_eq_true (show (xs.length : Int) ≤ 100000 from h1)]
      refine lcV_pure (fun x => Dv.bl (within x 0 255)) (by rw [sizeLine_eq]; omega) (fun _ _ _ => trivial) (fun x hx T Kq hs hq => ?_) ?_
      · simp only [dSeq, dAsg, dRet, dRetN, dDrop, dRaise, dBreak, dCont, dPar, dAug, dFor, dNext, dSetF, dAugF, dRaiseF, dIfS, dTest, dOp, dVar, dC, dCB, dCons, dNil, dCall, dAndV, dOrV, dNotV, dAndT, dOrT, dNotT, dIf, dTup, dLst, dLstV, dSl, dSlV, rdSlV, oSome, oNone, dNeg, gN, gT, gConsD, gNilD, gSubD, gFldD, dChain, dLc, dBM, isLst, iSeqD, iR1, iR2, iR3, dYes, rdAddV, rdMulV, rdSub, rdDiv, rdMod, rdPow, rdIAdd, rdCmp, rdIsN, isn_non, isn_bl, isn_int, isn_str, isn_ref, isn_tup, isn_rol, isn_obj, rdEqG, rdIx_tup, rdIx_rol, rdIx_put, rdSet, rdLen_tup, rdLen_rol, rdLen_str, rdLen_put, rdInt1, rdInt, rdInt2, rdAppend, rdExt, rdPopAt, rdMaxL, rdMinL, rdListV, rdIsB, isBlV, rdStrI, rdIntS, dFrz, dFld, insOf_put, dMeth, lstOf_rol, lstOf_put, seqOf_tup, seqOf_rol, seqOf_put, frz_tup, frz_rol, frz_int, frz_bl, frz_non, frz_str, frz_obj, startN, wipeD, List.map_cons, List.map_nil, List.length_cons, List.length_nil, Nat.zero_add, Nat.sub_self, Nat.reduceAdd, Nat.reduceSub, List.replicate_succ, List.replicate_zero, List.cons_append, List.nil_append, List.append_nil, List.getElem?_cons_zero, List.getElem?_cons_succ, List.set_cons_zero, List.set_cons_succ, Option.some.injEq, exists_eq_left', DEnds.xd, atI_0, atI_1, atI_2, atI_3, atI_4, atI_5, atI_6, atI_7, ixN_50, ixN_51, ixN_52, ixN_53, ixN_54, ixN_30, ixN_31, ixN_32, put_same, put_put, true_and, and_true, decide_true, decide_false, Bool.not_true, Bool.not_false, Bool.false_eq_true, if_true, if_false, decide_eq_true_eq, Bool.not_eq_true', decide_eq_false_iff_not, mem_one, ex_one, and_self, i_Reader, l_Reader, h_Reader_next_number, h_Reader_next_integer, h_Reader_next_integers, h_Reader_next_byte, h_Reader_finish, g_Reader_row, p_Reader_row, k_Reader_row, g_Reader_at, p_Reader_at, k_Reader_at, g_Reader_last, p_Reader_last, k_Reader_last]
        exact ⟨x, rfl, (hl x hx).sub hs, hq⟩
      · rw [all_map]
        refine all_rol ?_
        rw [List.all_map, Function.id_comp]
        exact h
    · rw [decide_eq_false h1] at h
      rw [decide_eq_false (show ¬ (xs.length : Int) ≤ 100000 from h1)]
      exact h
  | _ => exact h
def sp_check_inputs (A : Ad) : SpD := fun ds S Q X => ∃ d, ds = [d] ∧ knownL A S d ∧ if isInps d = true then Q .non S else X (.ref A.NoInputs) none S
theorem len_check_inputs (A : Ad) : ∀ ds S Q X, sp_check_inputs A ds S Q X → ds.length = 1 := by rintro _ _ _ _ ⟨_, rfl, _⟩; rfl
def r_check_inputs (A : Ad) : DS := (dIfS (dNotT (dTest (dCall (sp_are_inputs A) (dCons (dVar 0) dNil)))) (dRaise (.ref A.NoInputs)) dNext)
theorem rd_check_inputs (A : Ad) : Rd (r_check_inputs A) 1 (sp_check_inputs A) := by
  rintro ds S Q X ⟨d, rfl, hk, h⟩
  unfold r_check_inputs
  simp only [dSeq, dAsg, dRet, dRetN, dDrop, dRaise, dBreak, dCont, dPar, dAug, dFor, dNext, dSetF, dAugF, dRaiseF, dIfS, dTest, dOp, dVar, dC, dCB, dCons, dNil, dCall, dAndV, dOrV, dNotV, dAndT, dOrT, dNotT, dIf, dTup, dLst, dLstV, dSl, dSlV, rdSlV, oSome, oNone, dNeg, gN, gT, gConsD, gNilD, gSubD, gFldD, dChain, dLc, dBM, isLst, iSeqD, iR1, iR2, iR3, dYes, rdAddV, rdMulV, rdSub, rdDiv, rdMod, rdPow, rdIAdd, rdCmp, rdIsN, isn_non, isn_bl, isn_int, isn_str, isn_ref, isn_tup, isn_rol, isn_obj, rdEqG, rdIx_tup, rdIx_rol, rdIx_put, rdSet, rdLen_tup, rdLen_rol, rdLen_str, rdLen_put, rdInt1, rdInt, rdInt2, rdAppend, rdExt, rdPopAt, rdMaxL, rdMinL, rdListV, rdIsB, isBlV, rdStrI, rdIntS, dFrz, dFld, insOf_put, dMeth, lstOf_rol, lstOf_put, seqOf_tup, seqOf_rol, seqOf_put, frz_tup, frz_rol, frz_int, frz_bl, frz_non, frz_str, frz_obj, startN, wipeD, List.map_cons, List.map_nil, List.length_cons, List.length_nil, Nat.zero_add, Nat.sub_self, Nat.reduceAdd, Nat.reduceSub, List.replicate_succ, List.replicate_zero, List.cons_append, List.nil_append, List.append_nil, List.getElem?_cons_zero, List.getElem?_cons_succ, List.set_cons_zero, List.set_cons_succ, Option.some.injEq, exists_eq_left', DEnds.xd, atI_0, atI_1, atI_2, atI_3, atI_4, atI_5, atI_6, atI_7, ixN_50, ixN_51, ixN_52, ixN_53, ixN_54, ixN_30, ixN_31, ixN_32, put_same, put_put, true_and, and_true, decide_true, decide_false, Bool.not_true, Bool.not_false, Bool.false_eq_true, if_true, if_false, decide_eq_true_eq, Bool.not_eq_true', decide_eq_false_iff_not, mem_one, ex_one, and_self, i_Reader, l_Reader, h_Reader_next_number, h_Reader_next_integer, h_Reader_next_integers, h_Reader_next_byte, h_Reader_finish, g_Reader_row, p_Reader_row, k_Reader_row, g_Reader_at, p_Reader_at, k_Reader_at, g_Reader_last, p_Reader_last, k_Reader_last]
  refine ⟨d, rfl, hk, ?_⟩
  cases e : isInps d with
  | true => rw [if_pos e] at h; exact h
  | false => rw [if_neg (by rw [e]; decide)] at h; exact h
def sp_check_input (A : Ad) : SpD := fun ds S Q X => ∃ d, ds = [d] ∧ known A S d ∧ if within d 0 255 = true then Q .non S else X (.ref A.NoInputs) none S
theorem len_check_input (A : Ad) : ∀ ds S Q X, sp_check_input A ds S Q X → ds.length = 1 := by rintro _ _ _ _ ⟨_, rfl, _⟩; rfl
def r_check_input (A : Ad) : DS := (dIfS (dNotT (dTest (dCall (sp_is_input A) (dCons (dVar 0) dNil)))) (dRaise (.ref A.NoInputs)) dNext)
theorem rd_check_input (A : Ad) : Rd (r_check_input A) 1 (sp_check_input A) := by
  rintro ds S Q X ⟨d, rfl, hk, h⟩
  unfold r_check_input
  simp only [dSeq, dAsg, dRet, dRetN, dDrop, dRaise, dBreak, dCont, dPar, dAug, dFor, dNext, dSetF, dAugF, dRaiseF, dIfS, dTest, dOp, dVar, dC, dCB, dCons, dNil, dCall, dAndV, dOrV, dNotV, dAndT, dOrT, dNotT, dIf, dTup, dLst, dLstV, dSl, dSlV, rdSlV, oSome, oNone, dNeg, gN, gT, gConsD, gNilD, gSubD, gFldD, dChain, dLc, dBM, isLst, iSeqD, iR1, iR2, iR3, dYes, rdAddV, rdMulV, rdSub, rdDiv, rdMod, rdPow, rdIAdd, rdCmp, rdIsN, isn_non, isn_bl, isn_int, isn_str, isn_ref, isn_tup, isn_rol, isn_obj, rdEqG, rdIx_tup, rdIx_rol, rdIx_put, rdSet, rdLen_tup, rdLen_rol, rdLen_str, rdLen_put, rdInt1, rdInt, rdInt2, rdAppend, rdExt, rdPopAt, rdMaxL, rdMinL, rdListV, rdIsB, isBlV, rdStrI, rdIntS, dFrz, dFld, insOf_put, dMeth, lstOf_rol, lstOf_put, seqOf_tup, seqOf_rol, seqOf_put, frz_tup, frz_rol, frz_int, frz_bl, frz_non, frz_str, frz_obj, startN, wipeD, List.map_cons, List.map_nil, List.length_cons, List.length_nil, Nat.zero_add, Nat.sub_self, Nat.reduceAdd, Nat.reduceSub, List.replicate_succ, List.replicate_zero, List.cons_append, List.nil_append, List.append_nil, List.getElem?_cons_zero, List.getElem?_cons_succ, List.set_cons_zero, List.set_cons_succ, Option.some.injEq, exists_eq_left', DEnds.xd, atI_0, atI_1, atI_2, atI_3, atI_4, atI_5, atI_6, atI_7, ixN_50, ixN_51, ixN_52, ixN_53, ixN_54, ixN_30, ixN_31, ixN_32, put_same, put_put, true_and, and_true, decide_true, decide_false, Bool.not_true, Bool.not_false, Bool.false_eq_true, if_true, if_false, decide_eq_true_eq, Bool.not_eq_true', decide_eq_false_iff_not, mem_one, ex_one, and_self, i_Reader, l_Reader, h_Reader_next_number, h_Reader_next_integer, h_Reader_next_integers, h_Reader_next_byte, h_Reader_finish, g_Reader_row, p_Reader_row, k_Reader_row, g_Reader_at, p_Reader_at, k_Reader_at, g_Reader_last, p_Reader_last, k_Reader_last]
  refine ⟨d, rfl, hk, ?_⟩
  cases e : within d 0 255 with
  | true => rw [if_pos e] at h; exact h
  | false => rw [if_neg (by rw [e]; decide)] at h; exact h
theorem atI_m1 {α : Type} (xs : List α) (x : α) : atI (xs ++ [x]) (-1) = some x := by
  unfold atI
  have : ixN (xs ++ [x]).length (-1) = some xs.length := by
    rw [List.length_append]
    unfold ixN
    simp
    omega
  rw [this]
  simp
theorem set_m1 {α : Type} (xs : List α) (x y : α) : (xs ++ [x]).set xs.length y = xs ++ [y] := by simp
theorem ixN_m1 {n : Nat} : ixN (n + 1) (-1) = some n := by
  unfold ixN
  simp
  omega
def sp_runs_of (A : Ad) : SpD := fun ds S Q _ => ∃ xs : List Int, ds = [.tup (List.map Dv.int xs)] ∧ xs.length ≤ 100000 ∧ Q (.rol ((runsF xs).map prD)) S
theorem len_runs_of (A : Ad) : ∀ ds S Q X, sp_runs_of A ds S Q X → ds.length = 1 := by rintro _ _ _ _ ⟨_, rfl, _⟩; rfl
def r_runs_of (A : Ad) : DS := (dSeq (dAsg (dLst dNil) (gN 1))
    (dSeq (dFor (iSeqD (dVar 0)) (gN 2) (dIfS (dAndT (dTest (dOp rdGt (dCB rdLen (dCons (dVar 1) dNil)) (dC (.int 0)))) (dTest (dOp rdEq (dOp rdIx (dOp rdIx (dVar 1) (dNeg (dC (.int 1)))) (dC (.int 0))) (dVar 2)))) (dAsg (dTup (dCons (dVar 2) (dCons (dOp rdAddV (dOp rdIx (dOp rdIx (dVar 1) (dNeg (dC (.int 1)))) (dC (.int 1))) (dC (.int 1))) dNil))) (gSubD rdSet (dVar 1) (dNeg (dC (.int 1))))) (dDrop (dBM rdAppend (dVar 1) (dCons (dTup (dCons (dVar 2) (dCons (dC (.int 1)) dNil))) dNil)))))
    (dRet (dFrz (dVar 1)))))
theorem rd_runs_of (A : Ad) : Rd (r_runs_of A) 3 (sp_runs_of A) := by
  rintro ds S Q X ⟨xs, rfl, hl, h⟩
  unfold r_runs_of
  simp only [dSeq, dAsg, dRet, dRetN, dDrop, dRaise, dBreak, dCont, dPar, dAug, dFor, dNext, dSetF, dAugF, dRaiseF, dIfS, dTest, dOp, dVar, dC, dCB, dCons, dNil, dCall, dAndV, dOrV, dNotV, dAndT, dOrT, dNotT, dIf, dTup, dLst, dLstV, dSl, dSlV, rdSlV, oSome, oNone, dNeg, gN, gT, gConsD, gNilD, gSubD, gFldD, dChain, dLc, dBM, isLst, iSeqD, iR1, iR2, iR3, dYes, rdAddV, rdMulV, rdSub, rdDiv, rdMod, rdPow, rdIAdd, rdCmp, rdIsN, isn_non, isn_bl, isn_int, isn_str, isn_ref, isn_tup, isn_rol, isn_obj, rdEqG, rdIx_tup, rdIx_rol, rdIx_put, rdSet, rdLen_tup, rdLen_rol, rdLen_str, rdLen_put, rdInt1, rdInt, rdInt2, rdAppend, rdExt, rdPopAt, rdMaxL, rdMinL, rdListV, rdIsB, isBlV, rdStrI, rdIntS, dFrz, dFld, insOf_put, dMeth, lstOf_rol, lstOf_put, seqOf_tup, seqOf_rol, seqOf_put, frz_tup, frz_rol, frz_int, frz_bl, frz_non, frz_str, frz_obj, startN, wipeD, List.map_cons, List.map_nil, List.length_cons, List.length_nil, Nat.zero_add, Nat.sub_self, Nat.reduceAdd, Nat.reduceSub, List.replicate_succ, List.replicate_zero, List.cons_append, List.nil_append, List.append_nil, List.getElem?_cons_zero, List.getElem?_cons_succ, List.set_cons_zero, List.set_cons_succ, Option.some.injEq, exists_eq_left', DEnds.xd, atI_0, atI_1, atI_2, atI_3, atI_4, atI_5, atI_6, atI_7, ixN_50, ixN_51, ixN_52, ixN_53, ixN_54, ixN_30, ixN_31, ixN_32, put_same, put_put, true_and, and_true, decide_true, decide_false, Bool.not_true, Bool.not_false, Bool.false_eq_true, if_true, if_false, decide_eq_true_eq, Bool.not_eq_true', decide_eq_false_iff_not, mem_one, ex_one, and_self, i_Reader, l_Reader, h_Reader_next_number, h_Reader_next_integer, h_Reader_next_integers, h_Reader_next_byte, h_Reader_finish, g_Reader_row, p_Reader_row, k_Reader_row, g_Reader_at, p_Reader_at, k_Reader_at, g_Reader_last, p_Reader_last, k_Reader_last]
  refine ⟨slK, fun p hp => ?_⟩
  refine for_go (fun i ρ T => T = put S p (.lst ((runsF (xs.take i)).map prD)) ∧ ∃ y, ρ = [some (.tup (List.map Dv.int xs)), some (.ref p), y]) ⟨rfl, _, rfl⟩ (fun _ _ _ _ _ => trivial) (fun i x ρ T hx hw => ?_) fun ρ T hw => ?_
  · obtain ⟨rfl, y, rfl⟩ := hw
    obtain ⟨b, hb, rfl⟩ := map_get hx
    have hi := (List.getElem?_eq_some_iff.mp hb).1
    have en : runsF (xs.take (i + 1)) = addRun (runsF (xs.take i)) b := by rw [List.take_add_one, hb, Option.toList_some, runsF_snoc]
    have hlen := runsF_len (xs.take i)
    rw [List.length_take] at hlen
    simp only [dSeq, dAsg, dRet, dRetN, dDrop, dRaise, dBreak, dCont, dPar, dAug, dFor, dNext, dSetF, dAugF, dRaiseF, dIfS, dTest, dOp, dVar, dC, dCB, dCons, dNil, dCall, dAndV, dOrV, dNotV, dAndT, dOrT, dNotT, dIf, dTup, dLst, dLstV, dSl, dSlV, rdSlV, oSome, oNone, dNeg, gN, gT, gConsD, gNilD, gSubD, gFldD, dChain, dLc, dBM, isLst, iSeqD, iR1, iR2, iR3, dYes, rdAddV, rdMulV, rdSub, rdDiv, rdMod, rdPow, rdIAdd, rdCmp, rdIsN, isn_non, isn_bl, isn_int, isn_str, isn_ref, isn_tup, isn_rol, isn_obj, rdEqG, rdIx_tup, rdIx_rol, rdIx_put, rdSet, rdLen_tup, rdLen_rol, rdLen_str, rdLen_put, rdInt1, rdInt, rdInt2, rdAppend, rdExt, rdPopAt, rdMaxL, rdMinL, rdListV, rdIsB, isBlV, rdStrI, rdIntS, dFrz, dFld, insOf_put, dMeth, lstOf_rol, lstOf_put, seqOf_tup, seqOf_rol, seqOf_put, frz_tup, frz_rol, frz_int, frz_bl, frz_non, frz_str, frz_obj, startN, wipeD, List.map_cons, List.map_nil, List.length_cons, List.length_nil, Nat.zero_add, Nat.sub_self, Nat.reduceAdd, Nat.reduceSub, List.replicate_succ, List.replicate_zero, List.cons_append, List.nil_append, List.append_nil, List.getElem?_cons_zero, List.getElem?_cons_succ, List.set_cons_zero, List.set_cons_succ, Option.some.injEq, exists_eq_left', DEnds.xd, atI_0, atI_1, atI_2, atI_3, atI_4, atI_5, atI_6, atI_7, ixN_50, ixN_51, ixN_52, ixN_53, ixN_54, ixN_30, ixN_31, ixN_32, put_same, put_put, true_and, and_true, decide_true, decide_false, Bool.not_true, Bool.not_false, Bool.false_eq_true, if_true, if_false, decide_eq_true_eq, Bool.not_eq_true', decide_eq_false_iff_not, mem_one, ex_one, and_self, i_Reader, l_Reader, h_Reader_next_number, h_Reader_next_integer, h_Reader_next_integers, h_Reader_next_byte, h_Reader_finish, g_Reader_row, p_Reader_row, k_Reader_row, g_Reader_at, p_Reader_at, k_Reader_at, g_Reader_last, p_Reader_last, k_Reader_last]
    rcases List.eq_nil_or_concat (runsF (xs.take i)) with e | ⟨R, q, e⟩
    · rw [e] at en ⊢
      rw [if_neg (by simp)]
      simp only [dSeq, dAsg, dRet, dRetN, dDrop, dRaise, dBreak, dCont, dPar, dAug, dFor, dNext, dSetF, dAugF, dRaiseF, dIfS, dTest, dOp, dVar, dC, dCB, dCons, dNil, dCall, dAndV, dOrV, dNotV, dAndT, dOrT, dNotT, dIf, dTup, dLst, dLstV, dSl, dSlV, rdSlV, oSome, oNone, dNeg, gN, gT, gConsD, gNilD, gSubD, gFldD, dChain, dLc, dBM, isLst, iSeqD, iR1, iR2, iR3, dYes, rdAddV, rdMulV, rdSub, rdDiv, rdMod, rdPow, rdIAdd, rdCmp, rdIsN, isn_non, isn_bl, isn_int, isn_str, isn_ref, isn_tup, isn_rol, isn_obj, rdEqG, rdIx_tup, rdIx_rol, rdIx_put, rdSet, rdLen_tup, rdLen_rol, rdLen_str, rdLen_put, rdInt1, rdInt, rdInt2, rdAppend, rdExt, rdPopAt, rdMaxL, rdMinL, rdListV, rdIsB, isBlV, rdStrI, rdIntS, dFrz, dFld, insOf_put, dMeth, lstOf_rol, lstOf_put, seqOf_tup, seqOf_rol, seqOf_put, frz_tup, frz_rol, frz_int, frz_bl, frz_non, frz_str, frz_obj, startN, wipeD, List.map_cons, List.map_nil, List.length_cons, List.length_nil, Nat.zero_add, Nat.sub_self, Nat.reduceAdd, Nat.reduceSub, List.replicate_succ, List.replicate_zero, List.cons_append, List.nil_append, List.append_nil, List.getElem?_cons_zero, List.getElem?_cons_succ, List.set_cons_zero, List.set_cons_succ, Option.some.injEq, exists_eq_left', DEnds.xd, atI_0, atI_1, atI_2, atI_3, atI_4, atI_5, atI_6, atI_7, ixN_50, ixN_51, ixN_52, ixN_53, ixN_54, ixN_30, ixN_31, ixN_32, put_same, put_put, true_and, and_true, decide_true, decide_false, Bool.not_true, Bool.not_false, Bool.false_eq_true, if_true, if_false, decide_eq_true_eq, Bool.not_eq_true', decide_eq_false_iff_not, mem_one, ex_one, and_self, i_Reader, l_Reader, h_Reader_next_number, h_Reader_next_integer, h_Reader_next_integers, h_Reader_next_byte, h_Reader_finish, g_Reader_row, p_Reader_row, k_Reader_row, g_Reader_at, p_Reader_at, k_Reader_at, g_Reader_last, p_Reader_last, k_Reader_last]
      exact ⟨sl2, slK, by rw [en]; rfl, _, rfl⟩
    · obtain ⟨y2, m⟩ := q
      rw [List.concat_eq_append] at e
      rw [e] at en hlen ⊢
      rw [addRun_last] at en
      rw [if_pos (by simp)]
      rw [List.map_append]
      refine ⟨prD (y2, m), atI_m1 _ _, ?_⟩
      unfold prD
      simp only [dSeq, dAsg, dRet, dRetN, dDrop, dRaise, dBreak, dCont, dPar, dAug, dFor, dNext, dSetF, dAugF, dRaiseF, dIfS, dTest, dOp, dVar, dC, dCB, dCons, dNil, dCall, dAndV, dOrV, dNotV, dAndT, dOrT, dNotT, dIf, dTup, dLst, dLstV, dSl, dSlV, rdSlV, oSome, oNone, dNeg, gN, gT, gConsD, gNilD, gSubD, gFldD, dChain, dLc, dBM, isLst, iSeqD, iR1, iR2, iR3, dYes, rdAddV, rdMulV, rdSub, rdDiv, rdMod, rdPow, rdIAdd, rdCmp, rdIsN, isn_non, isn_bl, isn_int, isn_str, isn_ref, isn_tup, isn_rol, isn_obj, rdEqG, rdIx_tup, rdIx_rol, rdIx_put, rdSet, rdLen_tup, rdLen_rol, rdLen_str, rdLen_put, rdInt1, rdInt, rdInt2, rdAppend, rdExt, rdPopAt, rdMaxL, rdMinL, rdListV, rdIsB, isBlV, rdStrI, rdIntS, dFrz, dFld, insOf_put, dMeth, lstOf_rol, lstOf_put, seqOf_tup, seqOf_rol, seqOf_put, frz_tup, frz_rol, frz_int, frz_bl, frz_non, frz_str, frz_obj, startN, wipeD, List.map_cons, List.map_nil, List.length_cons, List.length_nil, Nat.zero_add, Nat.sub_self, Nat.reduceAdd, Nat.reduceSub, List.replicate_succ, List.replicate_zero, List.cons_append, List.nil_append, List.append_nil, List.getElem?_cons_zero, List.getElem?_cons_succ, List.set_cons_zero, List.set_cons_succ, Option.some.injEq, exists_eq_left', DEnds.xd, atI_0, atI_1, atI_2, atI_3, atI_4, atI_5, atI_6, atI_7, ixN_50, ixN_51, ixN_52, ixN_53, ixN_54, ixN_30, ixN_31, ixN_32, put_same, put_put, true_and, and_true, decide_true, decide_false, Bool.not_true, Bool.not_false, Bool.false_eq_true, if_true, if_false, decide_eq_true_eq, Bool.not_eq_true', decide_eq_false_iff_not, mem_one, ex_one, and_self, i_Reader, l_Reader, h_Reader_next_number, h_Reader_next_integer, h_Reader_next_integers, h_Reader_next_byte, h_Reader_finish, g_Reader_row, p_Reader_row, k_Reader_row, g_Reader_at, p_Reader_at, k_Reader_at, g_Reader_last, p_Reader_last, k_Reader_last]
      by_cases e2 : y2 = b
      · rw [if_pos e2] at en ⊢
        subst e2
        refine ⟨_, atI_m1 _ _, ?_⟩
        simp only [dSeq, dAsg, dRet, dRetN, dDrop, dRaise, dBreak, dCont, dPar, dAug, dFor, dNext, dSetF, dAugF, dRaiseF, dIfS, dTest, dOp, dVar, dC, dCB, dCons, dNil, dCall, dAndV, dOrV, dNotV, dAndT, dOrT, dNotT, dIf, dTup, dLst, dLstV, dSl, dSlV, rdSlV, oSome, oNone, dNeg, gN, gT, gConsD, gNilD, gSubD, gFldD, dChain, dLc, dBM, isLst, iSeqD, iR1, iR2, iR3, dYes, rdAddV, rdMulV, rdSub, rdDiv, rdMod, rdPow, rdIAdd, rdCmp, rdIsN, isn_non, isn_bl, isn_int, isn_str, isn_ref, isn_tup, isn_rol, isn_obj, rdEqG, rdIx_tup, rdIx_rol, rdIx_put, rdSet, rdLen_tup, rdLen_rol, rdLen_str, rdLen_put, rdInt1, rdInt, rdInt2, rdAppend, rdExt, rdPopAt, rdMaxL, rdMinL, rdListV, rdIsB, isBlV, rdStrI, rdIntS, dFrz, dFld, insOf_put, dMeth, lstOf_rol, lstOf_put, seqOf_tup, seqOf_rol, seqOf_put, frz_tup, frz_rol, frz_int, frz_bl, frz_non, frz_str, frz_obj, startN, wipeD, List.map_cons, List.map_nil, List.length_cons, List.length_nil, Nat.zero_add, Nat.sub_self, Nat.reduceAdd, Nat.reduceSub, List.replicate_succ, List.replicate_zero, List.cons_append, List.nil_append, List.append_nil, List.getElem?_cons_zero, List.getElem?_cons_succ, List.set_cons_zero, List.set_cons_succ, Option.some.injEq, exists_eq_left', DEnds.xd, atI_0, atI_1, atI_2, atI_3, atI_4, atI_5, atI_6, atI_7, ixN_50, ixN_51, ixN_52, ixN_53, ixN_54, ixN_30, ixN_31, ixN_32, put_same, put_put, true_and, and_true, decide_true, decide_false, Bool.not_true, Bool.not_false, Bool.false_eq_true, if_true, if_false, decide_eq_true_eq, Bool.not_eq_true', decide_eq_false_iff_not, mem_one, ex_one, and_self, i_Reader, l_Reader, h_Reader_next_number, h_Reader_next_integer, h_Reader_next_integers, h_Reader_next_byte, h_Reader_finish, g_Reader_row, p_Reader_row, k_Reader_row, g_Reader_at, p_Reader_at, k_Reader_at, g_Reader_last, p_Reader_last, k_Reader_last]
        refine ⟨sl2, R.length, ?_, ?_, _, rfl⟩
        · simp only [List.length_append, List.length_map, List.length_cons, List.length_nil]
          exact ixN_m1
        · rw [en, List.map_append]
          congr 2
          have := set_m1 (List.map (fun p => Dv.tup [.int p.1, .int p.2]) R) (.tup [.int y2, .int m]) (.tup [.int y2, .int (m + 1)])
          rw [List.length_map] at this
          exact this
      · rw [if_neg e2] at en ⊢
        refine ⟨sl2, ?_, ?_, _, rfl⟩
        · simp only [List.length_append, List.length_map, List.length_cons, List.length_nil]
          rw [sizeLine_eq]
          simp at hlen
          omega
        · rw [en]
          simp [prD]
  · obtain ⟨rfl, y, rfl⟩ := hw
    simp only [dSeq, dAsg, dRet, dRetN, dDrop, dRaise, dBreak, dCont, dPar, dAug, dFor, dNext, dSetF, dAugF, dRaiseF, dIfS, dTest, dOp, dVar, dC, dCB, dCons, dNil, dCall, dAndV, dOrV, dNotV, dAndT, dOrT, dNotT, dIf, dTup, dLst, dLstV, dSl, dSlV, rdSlV, oSome, oNone, dNeg, gN, gT, gConsD, gNilD, gSubD, gFldD, dChain, dLc, dBM, isLst, iSeqD, iR1, iR2, iR3, dYes, rdAddV, rdMulV, rdSub, rdDiv, rdMod, rdPow, rdIAdd, rdCmp, rdIsN, isn_non, isn_bl, isn_int, isn_str, isn_ref, isn_tup, isn_rol, isn_obj, rdEqG, rdIx_tup, rdIx_rol, rdIx_put, rdSet, rdLen_tup, rdLen_rol, rdLen_str, rdLen_put, rdInt1, rdInt, rdInt2, rdAppend, rdExt, rdPopAt, rdMaxL, rdMinL, rdListV, rdIsB, isBlV, rdStrI, rdIntS, dFrz, dFld, insOf_put, dMeth, lstOf_rol, lstOf_put, seqOf_tup, seqOf_rol, seqOf_put, frz_tup, frz_rol, frz_int, frz_bl, frz_non, frz_str, frz_obj, startN, wipeD, List.map_cons, List.map_nil, List.length_cons, List.length_nil, Nat.zero_add, Nat.sub_self, Nat.reduceAdd, Nat.reduceSub, List.replicate_succ, List.replicate_zero, List.cons_append, List.nil_append, List.append_nil, List.getElem?_cons_zero, List.getElem?_cons_succ, List.set_cons_zero, List.set_cons_succ, Option.some.injEq, exists_eq_left', DEnds.xd, atI_0, atI_1, atI_2, atI_3, atI_4, atI_5, atI_6, atI_7, ixN_50, ixN_51, ixN_52, ixN_53, ixN_54, ixN_30, ixN_31, ixN_32, put_same, put_put, true_and, and_true, decide_true, decide_false, Bool.not_true, Bool.not_false, Bool.false_eq_true, if_true, if_false, decide_eq_true_eq, Bool.not_eq_true', decide_eq_false_iff_not, mem_one, ex_one, and_self, i_Reader, l_Reader, h_Reader_next_number, h_Reader_next_integer, h_Reader_next_integers, h_Reader_next_byte, h_Reader_finish, g_Reader_row, p_Reader_row, k_Reader_row, g_Reader_at, p_Reader_at, k_Reader_at, g_Reader_last, p_Reader_last, k_Reader_last]
    rw [List.length_map, List.take_length]
    exact frz_new hp h
/-- the row of runs is no longer than so much -/
theorem runB_len (rs : Runs) : (runB rs).length ≤ 10 + 11 * rs.length := by
  unfold runB
  have h1 := figF_len 9 (rs.length : Int)
  have h2 : (rs.flatMap fun p => p.1 :: figs p.2).length ≤ 11 * rs.length := by
    induction rs with
    | nil => simp
    | cons p rs ih =>
      have := figF_len 9 p.2
      unfold figs at ih ⊢
      simp only [List.flatMap_cons, List.length_append, List.length_cons] at ih ⊢
      have ih' := ih (figF_len 9 (rs.length : Int))
      omega
  unfold figs at h2 ⊢
  rw [List.length_append]
  omega
theorem slM {n : Nat} (h : n ≤ 4000000 := by decide) : n ≤ sizeLine := by rw [sizeLine_eq]; omega
theorem figs_len (n : Int) : 1 ≤ (figs n).length ∧ (figs n).length ≤ 10 := figF_len 9 n
/-- the loop that lays runs -/
theorem flatB_snoc (rs : Runs) (p : Int × Int) : (rs ++ [p]).flatMap (fun p => p.1 :: figs p.2) = rs.flatMap (fun p => p.1 :: figs p.2) ++ p.1 :: figs p.2 := by rw [List.flatMap_append]; simp
theorem flatB_len (rs : Runs) : (rs.flatMap fun p => p.1 :: figs p.2).length ≤ 11 * rs.length := by
  induction rs with
  | nil => simp
  | cons p rs ih =>
    have := figs_len p.2
    simp only [List.flatMap_cons, List.length_append, List.length_cons] at ih ⊢
    omega
theorem cnt_le (xs : List Int) : ∀ p ∈ runsF xs, 1 ≤ p.2 ∧ p.2 ≤ xs.length := fun p hp => by
  obtain ⟨hc, he⟩ := canon_runsF xs
  refine ⟨hc.1 p hp, ?_⟩
  have hm : p.2.toNat ≤ xs.length := by
    rw [← he]
    obtain ⟨s, t, e⟩ := List.append_of_mem hp
    rw [e, expand_append]
    have : expand (p :: t) = List.replicate p.2.toNat p.1 ++ expand t := by unfold expand; simp
    rw [this]
    simp
    omega
  omega
def sp_run_row (A : Ad) : SpD := fun ds S Q _ => ∃ xs : List Int, ds = [.tup (List.map Dv.int xs)] ∧ xs.length ≤ 100000 ∧ Q (.tup (List.map Dv.int (runB (runsF xs)))) S
theorem len_run_row (A : Ad) : ∀ ds S Q X, sp_run_row A ds S Q X → ds.length = 1 := by rintro _ _ _ _ ⟨_, rfl, _⟩; rfl
def r_run_row (A : Ad) : DS := (dSeq (dAsg (dCall (sp_runs_of A) (dCons (dVar 0) dNil)) (gN 1))
    (dSeq (dAsg (dCB rdList (dCons (dCall (sp_figures_of A) (dCons (dCB rdLen (dCons (dVar 1) dNil)) dNil)) dNil)) (gN 2))
    (dSeq (dFor (iSeqD (dVar 1)) (gT 2 (gConsD (gN 3) (gConsD (gN 4) gNilD))) (dSeq (dDrop (dBM rdAppend (dVar 2) (dCons (dVar 3) dNil)))
    (dDrop (dBM rdExt (dVar 2) (dCons (dCall (sp_figures_of A) (dCons (dVar 4) dNil)) dNil)))))
    (dRet (dCB rdTuple (dCons (dVar 2) dNil))))))
theorem rd_run_row (A : Ad) : Rd (r_run_row A) 5 (sp_run_row A) := by
  rintro ds S Q X ⟨xs, rfl, hl, h⟩
  unfold r_run_row
  simp only [dSeq, dAsg, dRet, dRetN, dDrop, dRaise, dBreak, dCont, dPar, dAug, dFor, dNext, dSetF, dAugF, dRaiseF, dIfS, dTest, dOp, dVar, dC, dCB, dCons, dNil, dCall, dAndV, dOrV, dNotV, dAndT, dOrT, dNotT, dIf, dTup, dLst, dLstV, dSl, dSlV, rdSlV, oSome, oNone, dNeg, gN, gT, gConsD, gNilD, gSubD, gFldD, dChain, dLc, dBM, isLst, iSeqD, iR1, iR2, iR3, dYes, rdAddV, rdMulV, rdSub, rdDiv, rdMod, rdPow, rdIAdd, rdCmp, rdIsN, isn_non, isn_bl, isn_int, isn_str, isn_ref, isn_tup, isn_rol, isn_obj, rdEqG, rdIx_tup, rdIx_rol, rdIx_put, rdSet, rdLen_tup, rdLen_rol, rdLen_str, rdLen_put, rdInt1, rdInt, rdInt2, rdAppend, rdExt, rdPopAt, rdMaxL, rdMinL, rdListV, rdIsB, isBlV, rdStrI, rdIntS, dFrz, dFld, insOf_put, dMeth, lstOf_rol, lstOf_put, seqOf_tup, seqOf_rol, seqOf_put, frz_tup, frz_rol, frz_int, frz_bl, frz_non, frz_str, frz_obj, startN, wipeD, List.map_cons, List.map_nil, List.length_cons, List.length_nil, Nat.zero_add, Nat.sub_self, Nat.reduceAdd, Nat.reduceSub, List.replicate_succ, List.replicate_zero, List.cons_append, List.nil_append, List.append_nil, List.getElem?_cons_zero, List.getElem?_cons_succ, List.set_cons_zero, List.set_cons_succ, Option.some.injEq, exists_eq_left', DEnds.xd, atI_0, atI_1, atI_2, atI_3, atI_4, atI_5, atI_6, atI_7, ixN_50, ixN_51, ixN_52, ixN_53, ixN_54, ixN_30, ixN_31, ixN_32, put_same, put_put, true_and, and_true, decide_true, decide_false, Bool.not_true, Bool.not_false, Bool.false_eq_true, if_true, if_false, decide_eq_true_eq, Bool.not_eq_true', decide_eq_false_iff_not, mem_one, ex_one, and_self, i_Reader, l_Reader, h_Reader_next_number, h_Reader_next_integer, h_Reader_next_integers, h_Reader_next_byte, h_Reader_finish, g_Reader_row, p_Reader_row, k_Reader_row, g_Reader_at, p_Reader_at, k_Reader_at, g_Reader_last, p_Reader_last, k_Reader_last]
  have hn := runsF_len xs
  refine ⟨xs, rfl, hl, ?_⟩
  simp only [dSeq, dAsg, dRet, dRetN, dDrop, dRaise, dBreak, dCont, dPar, dAug, dFor, dNext, dSetF, dAugF, dRaiseF, dIfS, dTest, dOp, dVar, dC, dCB, dCons, dNil, dCall, dAndV, dOrV, dNotV, dAndT, dOrT, dNotT, dIf, dTup, dLst, dLstV, dSl, dSlV, rdSlV, oSome, oNone, dNeg, gN, gT, gConsD, gNilD, gSubD, gFldD, dChain, dLc, dBM, isLst, iSeqD, iR1, iR2, iR3, dYes, rdAddV, rdMulV, rdSub, rdDiv, rdMod, rdPow, rdIAdd, rdCmp, rdIsN, isn_non, isn_bl, isn_int, isn_str, isn_ref, isn_tup, isn_rol, isn_obj, rdEqG, rdIx_tup, rdIx_rol, rdIx_put, rdSet, rdLen_tup, rdLen_rol, rdLen_str, rdLen_put, rdInt1, rdInt, rdInt2, rdAppend, rdExt, rdPopAt, rdMaxL, rdMinL, rdListV, rdIsB, isBlV, rdStrI, rdIntS, dFrz, dFld, insOf_put, dMeth, lstOf_rol, lstOf_put, seqOf_tup, seqOf_rol, seqOf_put, frz_tup, frz_rol, frz_int, frz_bl, frz_non, frz_str, frz_obj, startN, wipeD, List.map_cons, List.map_nil, List.length_cons, List.length_nil, Nat.zero_add, Nat.sub_self, Nat.reduceAdd, Nat.reduceSub, List.replicate_succ, List.replicate_zero, List.cons_append, List.nil_append, List.append_nil, List.getElem?_cons_zero, List.getElem?_cons_succ, List.set_cons_zero, List.set_cons_succ, Option.some.injEq, exists_eq_left', DEnds.xd, atI_0, atI_1, atI_2, atI_3, atI_4, atI_5, atI_6, atI_7, ixN_50, ixN_51, ixN_52, ixN_53, ixN_54, ixN_30, ixN_31, ixN_32, put_same, put_put, true_and, and_true, decide_true, decide_false, Bool.not_true, Bool.not_false, Bool.false_eq_true, if_true, if_false, decide_eq_true_eq, Bool.not_eq_true', decide_eq_false_iff_not, mem_one, ex_one, and_self, i_Reader, l_Reader, h_Reader_next_number, h_Reader_next_integer, h_Reader_next_integers, h_Reader_next_byte, h_Reader_finish, g_Reader_row, p_Reader_row, k_Reader_row, g_Reader_at, p_Reader_at, k_Reader_at, g_Reader_last, p_Reader_last, k_Reader_last]
  refine ⟨_, rfl, by omega, by rw [List.length_map]; omega, ?_⟩
  unfold rdList
  simp only [dSeq, dAsg, dRet, dRetN, dDrop, dRaise, dBreak, dCont, dPar, dAug, dFor, dNext, dSetF, dAugF, dRaiseF, dIfS, dTest, dOp, dVar, dC, dCB, dCons, dNil, dCall, dAndV, dOrV, dNotV, dAndT, dOrT, dNotT, dIf, dTup, dLst, dLstV, dSl, dSlV, rdSlV, oSome, oNone, dNeg, gN, gT, gConsD, gNilD, gSubD, gFldD, dChain, dLc, dBM, isLst, iSeqD, iR1, iR2, iR3, dYes, rdAddV, rdMulV, rdSub, rdDiv, rdMod, rdPow, rdIAdd, rdCmp, rdIsN, isn_non, isn_bl, isn_int, isn_str, isn_ref, isn_tup, isn_rol, isn_obj, rdEqG, rdIx_tup, rdIx_rol, rdIx_put, rdSet, rdLen_tup, rdLen_rol, rdLen_str, rdLen_put, rdInt1, rdInt, rdInt2, rdAppend, rdExt, rdPopAt, rdMaxL, rdMinL, rdListV, rdIsB, isBlV, rdStrI, rdIntS, dFrz, dFld, insOf_put, dMeth, lstOf_rol, lstOf_put, seqOf_tup, seqOf_rol, seqOf_put, frz_tup, frz_rol, frz_int, frz_bl, frz_non, frz_str, frz_obj, startN, wipeD, List.map_cons, List.map_nil, List.length_cons, List.length_nil, Nat.zero_add, Nat.sub_self, Nat.reduceAdd, Nat.reduceSub, List.replicate_succ, List.replicate_zero, List.cons_append, List.nil_append, List.append_nil, List.getElem?_cons_zero, List.getElem?_cons_succ, List.set_cons_zero, List.set_cons_succ, Option.some.injEq, exists_eq_left', DEnds.xd, atI_0, atI_1, atI_2, atI_3, atI_4, atI_5, atI_6, atI_7, ixN_50, ixN_51, ixN_52, ixN_53, ixN_54, ixN_30, ixN_31, ixN_32, put_same, put_put, true_and, and_true, decide_true, decide_false, Bool.not_true, Bool.not_false, Bool.false_eq_true, if_true, if_false, decide_eq_true_eq, Bool.not_eq_true', decide_eq_false_iff_not, mem_one, ex_one, and_self, i_Reader, l_Reader, h_Reader_next_number, h_Reader_next_integer, h_Reader_next_integers, h_Reader_next_byte, h_Reader_finish, g_Reader_row, p_Reader_row, k_Reader_row, g_Reader_at, p_Reader_at, k_Reader_at, g_Reader_last, p_Reader_last, k_Reader_last]
  intro p hp
  rw [List.length_map]
  refine for_go (fun i ρ T => T = put S p (.lst (List.map Dv.int (figs ((runsF xs).length : Int) ++ ((runsF xs).take i).flatMap fun p => p.1 :: figs p.2))) ∧ ∃ y z, ρ = [some (.tup (List.map Dv.int xs)), some (.rol ((runsF xs).map prD)), some (.ref p), y, z]) ⟨by simp, _, _, rfl⟩ (fun _ _ _ _ _ => trivial) (fun i x ρ T hx hw => ?_) fun ρ T hw => ?_
  · obtain ⟨rfl, y, z, rfl⟩ := hw
    obtain ⟨⟨b, m⟩, hb, rfl⟩ := map_get hx
    have hi := (List.getElem?_eq_some_iff.mp hb).1
    have hm := cnt_le xs (b, m) (List.mem_of_getElem? hb)
    have f1 := figs_len ((runsF xs).length : Int)
    have f2 := figs_len m
    have f3 := flatB_len ((runsF xs).take i)
    rw [List.length_take] at f3
    unfold prD
    simp only [dSeq, dAsg, dRet, dRetN, dDrop, dRaise, dBreak, dCont, dPar, dAug, dFor, dNext, dSetF, dAugF, dRaiseF, dIfS, dTest, dOp, dVar, dC, dCB, dCons, dNil, dCall, dAndV, dOrV, dNotV, dAndT, dOrT, dNotT, dIf, dTup, dLst, dLstV, dSl, dSlV, rdSlV, oSome, oNone, dNeg, gN, gT, gConsD, gNilD, gSubD, gFldD, dChain, dLc, dBM, isLst, iSeqD, iR1, iR2, iR3, dYes, rdAddV, rdMulV, rdSub, rdDiv, rdMod, rdPow, rdIAdd, rdCmp, rdIsN, isn_non, isn_bl, isn_int, isn_str, isn_ref, isn_tup, isn_rol, isn_obj, rdEqG, rdIx_tup, rdIx_rol, rdIx_put, rdSet, rdLen_tup, rdLen_rol, rdLen_str, rdLen_put, rdInt1, rdInt, rdInt2, rdAppend, rdExt, rdPopAt, rdMaxL, rdMinL, rdListV, rdIsB, isBlV, rdStrI, rdIntS, dFrz, dFld, insOf_put, dMeth, lstOf_rol, lstOf_put, seqOf_tup, seqOf_rol, seqOf_put, frz_tup, frz_rol, frz_int, frz_bl, frz_non, frz_str, frz_obj, startN, wipeD, List.map_cons, List.map_nil, List.length_cons, List.length_nil, Nat.zero_add, Nat.sub_self, Nat.reduceAdd, Nat.reduceSub, List.replicate_succ, List.replicate_zero, List.cons_append, List.nil_append, List.append_nil, List.getElem?_cons_zero, List.getElem?_cons_succ, List.set_cons_zero, List.set_cons_succ, Option.some.injEq, exists_eq_left', DEnds.xd, atI_0, atI_1, atI_2, atI_3, atI_4, atI_5, atI_6, atI_7, ixN_50, ixN_51, ixN_52, ixN_53, ixN_54, ixN_30, ixN_31, ixN_32, put_same, put_put, true_and, and_true, decide_true, decide_false, Bool.not_true, Bool.not_false, Bool.false_eq_true, if_true, if_false, decide_eq_true_eq, Bool.not_eq_true', decide_eq_false_iff_not, mem_one, ex_one, and_self, i_Reader, l_Reader, h_Reader_next_number, h_Reader_next_integer, h_Reader_next_integers, h_Reader_next_byte, h_Reader_finish, g_Reader_row, p_Reader_row, k_Reader_row, g_Reader_at, p_Reader_at, k_Reader_at, g_Reader_last, p_Reader_last, k_Reader_last]
    refine ⟨by rw [List.length_map, List.length_append, sizeLine_eq]; omega, m, rfl, by have := hm.1; dsimp only at this; omega, by have := hm.2; dsimp only at this; omega, ?_⟩
    simp only [dSeq, dAsg, dRet, dRetN, dDrop, dRaise, dBreak, dCont, dPar, dAug, dFor, dNext, dSetF, dAugF, dRaiseF, dIfS, dTest, dOp, dVar, dC, dCB, dCons, dNil, dCall, dAndV, dOrV, dNotV, dAndT, dOrT, dNotT, dIf, dTup, dLst, dLstV, dSl, dSlV, rdSlV, oSome, oNone, dNeg, gN, gT, gConsD, gNilD, gSubD, gFldD, dChain, dLc, dBM, isLst, iSeqD, iR1, iR2, iR3, dYes, rdAddV, rdMulV, rdSub, rdDiv, rdMod, rdPow, rdIAdd, rdCmp, rdIsN, isn_non, isn_bl, isn_int, isn_str, isn_ref, isn_tup, isn_rol, isn_obj, rdEqG, rdIx_tup, rdIx_rol, rdIx_put, rdSet, rdLen_tup, rdLen_rol, rdLen_str, rdLen_put, rdInt1, rdInt, rdInt2, rdAppend, rdExt, rdPopAt, rdMaxL, rdMinL, rdListV, rdIsB, isBlV, rdStrI, rdIntS, dFrz, dFld, insOf_put, dMeth, lstOf_rol, lstOf_put, seqOf_tup, seqOf_rol, seqOf_put, frz_tup, frz_rol, frz_int, frz_bl, frz_non, frz_str, frz_obj, startN, wipeD, List.map_cons, List.map_nil, List.length_cons, List.length_nil, Nat.zero_add, Nat.sub_self, Nat.reduceAdd, Nat.reduceSub, List.replicate_succ, List.replicate_zero, List.cons_append, List.nil_append, List.append_nil, List.getElem?_cons_zero, List.getElem?_cons_succ, List.set_cons_zero, List.set_cons_succ, Option.some.injEq, exists_eq_left', DEnds.xd, atI_0, atI_1, atI_2, atI_3, atI_4, atI_5, atI_6, atI_7, ixN_50, ixN_51, ixN_52, ixN_53, ixN_54, ixN_30, ixN_31, ixN_32, put_same, put_put, true_and, and_true, decide_true, decide_false, Bool.not_true, Bool.not_false, Bool.false_eq_true, if_true, if_false, decide_eq_true_eq, Bool.not_eq_true', decide_eq_false_iff_not, mem_one, ex_one, and_self, i_Reader, l_Reader, h_Reader_next_number, h_Reader_next_integer, h_Reader_next_integers, h_Reader_next_byte, h_Reader_finish, g_Reader_row, p_Reader_row, k_Reader_row, g_Reader_at, p_Reader_at, k_Reader_at, g_Reader_last, p_Reader_last, k_Reader_last]
    refine ⟨?_, ?_, _, _, rfl⟩
    · simp only [List.length_append, List.length_map, List.length_cons, List.length_nil]
      rw [sizeLine_eq]
      omega
    · rw [List.take_add_one, hb, Option.toList_some, flatB_snoc]
      simp
  · obtain ⟨rfl, y, z, rfl⟩ := hw
    simp only [dSeq, dAsg, dRet, dRetN, dDrop, dRaise, dBreak, dCont, dPar, dAug, dFor, dNext, dSetF, dAugF, dRaiseF, dIfS, dTest, dOp, dVar, dC, dCB, dCons, dNil, dCall, dAndV, dOrV, dNotV, dAndT, dOrT, dNotT, dIf, dTup, dLst, dLstV, dSl, dSlV, rdSlV, oSome, oNone, dNeg, gN, gT, gConsD, gNilD, gSubD, gFldD, dChain, dLc, dBM, isLst, iSeqD, iR1, iR2, iR3, dYes, rdAddV, rdMulV, rdSub, rdDiv, rdMod, rdPow, rdIAdd, rdCmp, rdIsN, isn_non, isn_bl, isn_int, isn_str, isn_ref, isn_tup, isn_rol, isn_obj, rdEqG, rdIx_tup, rdIx_rol, rdIx_put, rdSet, rdLen_tup, rdLen_rol, rdLen_str, rdLen_put, rdInt1, rdInt, rdInt2, rdAppend, rdExt, rdPopAt, rdMaxL, rdMinL, rdListV, rdIsB, isBlV, rdStrI, rdIntS, dFrz, dFld, insOf_put, dMeth, lstOf_rol, lstOf_put, seqOf_tup, seqOf_rol, seqOf_put, frz_tup, frz_rol, frz_int, frz_bl, frz_non, frz_str, frz_obj, startN, wipeD, List.map_cons, List.map_nil, List.length_cons, List.length_nil, Nat.zero_add, Nat.sub_self, Nat.reduceAdd, Nat.reduceSub, List.replicate_succ, List.replicate_zero, List.cons_append, List.nil_append, List.append_nil, List.getElem?_cons_zero, List.getElem?_cons_succ, List.set_cons_zero, List.set_cons_succ, Option.some.injEq, exists_eq_left', DEnds.xd, atI_0, atI_1, atI_2, atI_3, atI_4, atI_5, atI_6, atI_7, ixN_50, ixN_51, ixN_52, ixN_53, ixN_54, ixN_30, ixN_31, ixN_32, put_same, put_put, true_and, and_true, decide_true, decide_false, Bool.not_true, Bool.not_false, Bool.false_eq_true, if_true, if_false, decide_eq_true_eq, Bool.not_eq_true', decide_eq_false_iff_not, mem_one, ex_one, and_self, i_Reader, l_Reader, h_Reader_next_number, h_Reader_next_integer, h_Reader_next_integers, h_Reader_next_byte, h_Reader_finish, g_Reader_row, p_Reader_row, k_Reader_row, g_Reader_at, p_Reader_at, k_Reader_at, g_Reader_last, p_Reader_last, k_Reader_last]
    rw [List.length_map, List.take_length]
    exact tup_new hp h
def sp_input_row (A : Ad) : SpD := fun ds S Q X => ∃ d, ds = [d] ∧ knownL A S d ∧ if isInps d = true then ∃ xs : List Int, d = .tup (List.map Dv.int xs) ∧ xs.length ≤ 100000 ∧ Q (.tup (List.map Dv.int (runB (runsF xs)))) S else X (.ref A.NoInputs) none S
theorem len_input_row (A : Ad) : ∀ ds S Q X, sp_input_row A ds S Q X → ds.length = 1 := by rintro _ _ _ _ ⟨_, rfl, _⟩; rfl
def r_input_row (A : Ad) : DS := (dSeq (dDrop (dCall (sp_check_inputs A) (dCons (dVar 0) dNil)))
    (dRet (dCall (sp_run_row A) (dCons (dVar 0) dNil))))
theorem rd_input_row (A : Ad) : Rd (r_input_row A) 1 (sp_input_row A) := by
  rintro ds S Q X ⟨d, rfl, hk, h⟩
  unfold r_input_row
  simp only [dSeq, dAsg, dRet, dRetN, dDrop, dRaise, dBreak, dCont, dPar, dAug, dFor, dNext, dSetF, dAugF, dRaiseF, dIfS, dTest, dOp, dVar, dC, dCB, dCons, dNil, dCall, dAndV, dOrV, dNotV, dAndT, dOrT, dNotT, dIf, dTup, dLst, dLstV, dSl, dSlV, rdSlV, oSome, oNone, dNeg, gN, gT, gConsD, gNilD, gSubD, gFldD, dChain, dLc, dBM, isLst, iSeqD, iR1, iR2, iR3, dYes, rdAddV, rdMulV, rdSub, rdDiv, rdMod, rdPow, rdIAdd, rdCmp, rdIsN, isn_non, isn_bl, isn_int, isn_str, isn_ref, isn_tup, isn_rol, isn_obj, rdEqG, rdIx_tup, rdIx_rol, rdIx_put, rdSet, rdLen_tup, rdLen_rol, rdLen_str, rdLen_put, rdInt1, rdInt, rdInt2, rdAppend, rdExt, rdPopAt, rdMaxL, rdMinL, rdListV, rdIsB, isBlV, rdStrI, rdIntS, dFrz, dFld, insOf_put, dMeth, lstOf_rol, lstOf_put, seqOf_tup, seqOf_rol, seqOf_put, frz_tup, frz_rol, frz_int, frz_bl, frz_non, frz_str, frz_obj, startN, wipeD, List.map_cons, List.map_nil, List.length_cons, List.length_nil, Nat.zero_add, Nat.sub_self, Nat.reduceAdd, Nat.reduceSub, List.replicate_succ, List.replicate_zero, List.cons_append, List.nil_append, List.append_nil, List.getElem?_cons_zero, List.getElem?_cons_succ, List.set_cons_zero, List.set_cons_succ, Option.some.injEq, exists_eq_left', DEnds.xd, atI_0, atI_1, atI_2, atI_3, atI_4, atI_5, atI_6, atI_7, ixN_50, ixN_51, ixN_52, ixN_53, ixN_54, ixN_30, ixN_31, ixN_32, put_same, put_put, true_and, and_true, decide_true, decide_false, Bool.not_true, Bool.not_false, Bool.false_eq_true, if_true, if_false, decide_eq_true_eq, Bool.not_eq_true', decide_eq_false_iff_not, mem_one, ex_one, and_self, i_Reader, l_Reader, h_Reader_next_number, h_Reader_next_integer, h_Reader_next_integers, h_Reader_next_byte, h_Reader_finish, g_Reader_row, p_Reader_row, k_Reader_row, g_Reader_at, p_Reader_at, k_Reader_at, g_Reader_last, p_Reader_last, k_Reader_last]
  refine ⟨d, rfl, hk, ?_⟩
  by_cases e : isInps d = true
  · rw [if_pos e] at h ⊢
    obtain ⟨xs, rfl, hl, q⟩ := h
    exact ⟨xs, rfl, hl, q⟩
  · rw [if_neg e] at h ⊢
    exact h
/-- of right inputs -/
theorem go_input_row {A : Ad} {xs : List Int} {S : Sto} {Q : QD} {X : XD} (h1 : xs.length ≤ 100000) (h2 : ∀ n ∈ xs, 0 ≤ n ∧ n < 256) (q : Q (.tup (List.map Dv.int (runB (runsF xs)))) S) : sp_input_row A [.tup (List.map Dv.int xs)] S Q X :=
  ⟨_, rfl, knL_ints, by rw [if_pos (isInps_ints h1 h2)]; exact ⟨xs, rfl, h1, q⟩⟩
/-- of what is read -/
def told (A : Ad) (x dx : Addr) (xs : List Int) (t : Told) (S : Sto) (Q : QD) (X : XD) : Prop := match t with
  | .error pl => ∀ a l, badX A.BadRow pl (put S x (rdr A dx xs a l)) X
  | .ok (ys, b) => ∀ l, Q (.tup (List.map Dv.int ys)) (put S x (rdr A dx xs (.int (b : Nat)) l))
def sp_taken_inputs (A : Ad) : SpD := fun ds S Q X => ∃ x dx xs l, ∃ i : Nat, ds = [.ref x] ∧ S x = some (rdr A dx xs (.int i) l) ∧ rowOk xs ∧ i ≤ xs.length ∧ told A x dx xs (parse xs i) S Q X
theorem len_taken_inputs (A : Ad) : ∀ ds S Q X, sp_taken_inputs A ds S Q X → ds.length = 1 := by rintro _ _ _ _ ⟨_, _, _, _, _, rfl, _⟩; rfl
def r_taken_inputs (A : Ad) : DS := (dSeq (dAsg (dLst dNil) (gN 1))
    (dSeq (dFor (iR1 (dCons (dMeth [(A.Reader, (sp_Reader_next_number A))] (Str.ofString "next_number") (dVar 0) dNil) dNil)) (gN 2) (dSeq (dAsg (dMeth [(A.Reader, (sp_Reader_next_byte A))] (Str.ofString "next_byte") (dVar 0) dNil) (gN 3))
    (dSeq (dAsg (dFld [A.Reader] (Str.ofString "last") (dVar 0)) (gN 4))
    (dSeq (dAsg (dMeth [(A.Reader, (sp_Reader_next_number A))] (Str.ofString "next_number") (dVar 0) dNil) (gN 5))
    (dSeq (dIfS (dOrT (dTest (dOp rdEq (dVar 5) (dC (.int 0)))) (dOrT (dTest (dOp rdGt (dOp rdAddV (dCB rdLen (dCons (dVar 1) dNil)) (dVar 5)) (dC (.int 100000)))) (dAndT (dTest (dOp rdGt (dCB rdLen (dCons (dVar 1) dNil)) (dC (.int 0)))) (dTest (dOp rdEq (dOp rdIx (dVar 1) (dNeg (dC (.int 1)))) (dVar 3)))))) (dRaiseF (.ref A.BadRow) (Str.ofString "place") (dCons (dVar 4) dNil)) dNext)
    (dDrop (dBM rdExt (dVar 1) (dCons (dOp rdMulV (dLstV (dCons (dVar 3) dNil)) (dVar 5)) dNil))))))))
    (dRet (dCB rdTuple (dCons (dVar 1) dNil)))))
theorem flat_one {α : Type} (k : Nat) (x : α) : (List.replicate k [x]).flatten = List.replicate k x := by
  induction k with
  | zero => rfl
  | succ k ih => rw [List.replicate_succ, List.replicate_succ, List.flatten_cons, ih]; rfl
theorem bad_fg {S : Sto} {p x : Addr} {L R : MO} {c : Addr} {pl : Int} {X : XD} (hp : S p = none) (h : badX c pl (put S x R) X) : badX c pl (put (put S p L) x R) (fun c da S' => ∃ T, VD.Sub T S' ∧ X c da T) := by
  intro d hd
  have h1 : d ≠ x := fun z => by subst z; rw [put_same] at hd; cases hd
  rw [put_ne h1] at hd
  have h2 : d ≠ p := fun z => by subst z; rw [put_same] at hd; cases hd
  rw [put_ne h2] at hd
  exact ⟨_, Sub.put (Sub.put (Sub.new hp)), h d (by rw [put_ne h1]; exact hd)⟩
theorem rd_taken_inputs (A : Ad) : RdF (r_taken_inputs A) 6 (sp_taken_inputs A) := by
  rintro ds S Q X ⟨x, dx, xs, l, i, rfl, hx, hr, hi, h⟩
  unfold r_taken_inputs
  simp only [dSeq, dAsg, dRet, dRetN, dDrop, dRaise, dBreak, dCont, dPar, dAug, dFor, dNext, dSetF, dAugF, dRaiseF, dIfS, dTest, dOp, dVar, dC, dCB, dCons, dNil, dCall, dAndV, dOrV, dNotV, dAndT, dOrT, dNotT, dIf, dTup, dLst, dLstV, dSl, dSlV, rdSlV, oSome, oNone, dNeg, gN, gT, gConsD, gNilD, gSubD, gFldD, dChain, dLc, dBM, isLst, iSeqD, iR1, iR2, iR3, dYes, rdAddV, rdMulV, rdSub, rdDiv, rdMod, rdPow, rdIAdd, rdCmp, rdIsN, isn_non, isn_bl, isn_int, isn_str, isn_ref, isn_tup, isn_rol, isn_obj, rdEqG, rdIx_tup, rdIx_rol, rdIx_put, rdSet, rdLen_tup, rdLen_rol, rdLen_str, rdLen_put, rdInt1, rdInt, rdInt2, rdAppend, rdExt, rdPopAt, rdMaxL, rdMinL, rdListV, rdIsB, isBlV, rdStrI, rdIntS, dFrz, dFld, insOf_put, dMeth, lstOf_rol, lstOf_put, seqOf_tup, seqOf_rol, seqOf_put, frz_tup, frz_rol, frz_int, frz_bl, frz_non, frz_str, frz_obj, startN, wipeD, List.map_cons, List.map_nil, List.length_cons, List.length_nil, Nat.zero_add, Nat.sub_self, Nat.reduceAdd, Nat.reduceSub, List.replicate_succ, List.replicate_zero, List.cons_append, List.nil_append, List.append_nil, List.getElem?_cons_zero, List.getElem?_cons_succ, List.set_cons_zero, List.set_cons_succ, Option.some.injEq, exists_eq_left', DEnds.xd, atI_0, atI_1, atI_2, atI_3, atI_4, atI_5, atI_6, atI_7, ixN_50, ixN_51, ixN_52, ixN_53, ixN_54, ixN_30, ixN_31, ixN_32, put_same, put_put, true_and, and_true, decide_true, decide_false, Bool.not_true, Bool.not_false, Bool.false_eq_true, if_true, if_false, decide_eq_true_eq, Bool.not_eq_true', decide_eq_false_iff_not, mem_one, ex_one, and_self, i_Reader, l_Reader, h_Reader_next_number, h_Reader_next_integer, h_Reader_next_integers, h_Reader_next_byte, h_Reader_finish, g_Reader_row, p_Reader_row, k_Reader_row, g_Reader_at, p_Reader_at, k_Reader_at, g_Reader_last, p_Reader_last, k_Reader_last]
  refine ⟨slK, fun p hp => ?_⟩
  have hpx : p ≠ x := fun z => by subst z; rw [hp] at hx; cases hx
  have e0 : put S p (.lst []) = put (put S p (.lst (List.map Dv.int []))) x (rdr A dx xs (.int i) l) := (put_self (by rw [put_ne hpx.symm]; exact hx)).symm
  rw [e0]
  have bad : ∀ (pl : Int) (L : MO) (a l : Dv), parse xs i = .error pl → badX A.BadRow pl (put (put S p L) x (rdr A dx xs a l)) (fun c da S' => ∃ T, VD.Sub T S' ∧ X c da T) := by
    intro pl L a l e
    unfold told at h
    rw [e] at h
    exact bad_fg hp (h a l)
  simp only [dSeq, dAsg, dRet, dRetN, dDrop, dRaise, dBreak, dCont, dPar, dAug, dFor, dNext, dSetF, dAugF, dRaiseF, dIfS, dTest, dOp, dVar, dC, dCB, dCons, dNil, dCall, dAndV, dOrV, dNotV, dAndT, dOrT, dNotT, dIf, dTup, dLst, dLstV, dSl, dSlV, rdSlV, oSome, oNone, dNeg, gN, gT, gConsD, gNilD, gSubD, gFldD, dChain, dLc, dBM, isLst, iSeqD, iR1, iR2, iR3, dYes, rdAddV, rdMulV, rdSub, rdDiv, rdMod, rdPow, rdIAdd, rdCmp, rdIsN, isn_non, isn_bl, isn_int, isn_str, isn_ref, isn_tup, isn_rol, isn_obj, rdEqG, rdIx_tup, rdIx_rol, rdIx_put, rdSet, rdLen_tup, rdLen_rol, rdLen_str, rdLen_put, rdInt1, rdInt, rdInt2, rdAppend, rdExt, rdPopAt, rdMaxL, rdMinL, rdListV, rdIsB, isBlV, rdStrI, rdIntS, dFrz, dFld, insOf_put, dMeth, lstOf_rol, lstOf_put, seqOf_tup, seqOf_rol, seqOf_put, frz_tup, frz_rol, frz_int, frz_bl, frz_non, frz_str, frz_obj, startN, wipeD, List.map_cons, List.map_nil, List.length_cons, List.length_nil, Nat.zero_add, Nat.sub_self, Nat.reduceAdd, Nat.reduceSub, List.replicate_succ, List.replicate_zero, List.cons_append, List.nil_append, List.append_nil, List.getElem?_cons_zero, List.getElem?_cons_succ, List.set_cons_zero, List.set_cons_succ, Option.some.injEq, exists_eq_left', DEnds.xd, atI_0, atI_1, atI_2, atI_3, atI_4, atI_5, atI_6, atI_7, ixN_50, ixN_51, ixN_52, ixN_53, ixN_54, ixN_30, ixN_31, ixN_32, put_same, put_put, true_and, and_true, decide_true, decide_false, Bool.not_true, Bool.not_false, Bool.false_eq_true, if_true, if_false, decide_eq_true_eq, Bool.not_eq_true', decide_eq_false_iff_not, mem_one, ex_one, and_self, i_Reader, l_Reader, h_Reader_next_number, h_Reader_next_integer, h_Reader_next_integers, h_Reader_next_byte, h_Reader_finish, g_Reader_row, p_Reader_row, k_Reader_row, g_Reader_at, p_Reader_at, k_Reader_at, g_Reader_last, p_Reader_last, k_Reader_last, ins_rdr]
  refine ⟨x, dx, xs, _, i, rfl, put_same, hr, hi, ?_⟩
  rw [put_put]
  cases e1 : readO xs i with
  | none => exact bad _ _ _ _ (by unfold parse; rw [e1])
  | some q =>
    obtain ⟨n, b0⟩ := q
    obtain ⟨n0, n1, n2, n3⟩ := readO_ok e1
    dsimp only
    rw [put_put]
    have ep : parse xs i = parseR n.toNat xs b0 [] := by unfold parse; rw [e1]
    refine for_go (fun j ρ T => ∃ (here : Nat) (found : List Int) (l y2 y3 y4 y5 : _), T = put (put S p (.lst (List.map Dv.int found))) x (rdr A dx xs (.int here) l) ∧ here ≤ xs.length ∧ parse xs i = parseR (n.toNat - j) xs here found ∧ found.length ≤ 100000 ∧
      ρ = [some (.ref x), some (.ref p), y2, y3, y4, y5]) ⟨b0, [], _, _, _, _, _, rfl, n3, by rw [ep]; rfl, by simp, rfl⟩ (fun _ _ _ _ _ => trivial) (fun j z ρ T hz hw => ?_) fun ρ T hw => ?_
    · obtain ⟨here, found, l, y2, y3, y4, y5, rfl, hh, hq, hf, rfl⟩ := hw
      have hj := (rangeL_mem hz).1
      obtain ⟨k, hk⟩ : ∃ k, n.toNat - j = k + 1 := ⟨n.toNat - j - 1, by omega⟩
      rw [hk] at hq
      unfold parseR at hq
      have two : ∀ R, (put (put S p (.lst (List.map Dv.int found))) x R) p = some (.lst (List.map Dv.int found)) := fun R => by rw [put_ne hpx, put_same]
      simp only [dSeq, dAsg, dRet, dRetN, dDrop, dRaise, dBreak, dCont, dPar, dAug, dFor, dNext, dSetF, dAugF, dRaiseF, dIfS, dTest, dOp, dVar, dC, dCB, dCons, dNil, dCall, dAndV, dOrV, dNotV, dAndT, dOrT, dNotT, dIf, dTup, dLst, dLstV, dSl, dSlV, rdSlV, oSome, oNone, dNeg, gN, gT, gConsD, gNilD, gSubD, gFldD, dChain, dLc, dBM, isLst, iSeqD, iR1, iR2, iR3, dYes, rdAddV, rdMulV, rdSub, rdDiv, rdMod, rdPow, rdIAdd, rdCmp, rdIsN, isn_non, isn_bl, isn_int, isn_str, isn_ref, isn_tup, isn_rol, isn_obj, rdEqG, rdIx_tup, rdIx_rol, rdIx_put, rdSet, rdLen_tup, rdLen_rol, rdLen_str, rdLen_put, rdInt1, rdInt, rdInt2, rdAppend, rdExt, rdPopAt, rdMaxL, rdMinL, rdListV, rdIsB, isBlV, rdStrI, rdIntS, dFrz, dFld, insOf_put, dMeth, lstOf_rol, lstOf_put, seqOf_tup, seqOf_rol, seqOf_put, frz_tup, frz_rol, frz_int, frz_bl, frz_non, frz_str, frz_obj, startN, wipeD, List.map_cons, List.map_nil, List.length_cons, List.length_nil, Nat.zero_add, Nat.sub_self, Nat.reduceAdd, Nat.reduceSub, List.replicate_succ, List.replicate_zero, List.cons_append, List.nil_append, List.append_nil, List.getElem?_cons_zero, List.getElem?_cons_succ, List.set_cons_zero, List.set_cons_succ, Option.some.injEq, exists_eq_left', DEnds.xd, atI_0, atI_1, atI_2, atI_3, atI_4, atI_5, atI_6, atI_7, ixN_50, ixN_51, ixN_52, ixN_53, ixN_54, ixN_30, ixN_31, ixN_32, put_same, put_put, true_and, and_true, decide_true, decide_false, Bool.not_true, Bool.not_false, Bool.false_eq_true, if_true, if_false, decide_eq_true_eq, Bool.not_eq_true', decide_eq_false_iff_not, mem_one, ex_one, and_self, i_Reader, l_Reader, h_Reader_next_number, h_Reader_next_integer, h_Reader_next_integers, h_Reader_next_byte, h_Reader_finish, g_Reader_row, p_Reader_row, k_Reader_row, g_Reader_at, p_Reader_at, k_Reader_at, g_Reader_last, p_Reader_last, k_Reader_last, ins_rdr]
      refine ⟨x, dx, xs, _, here, rfl, put_same, hh, ?_⟩
      rw [put_put]
      cases e2 : xs[here]? with
      | none =>
        rw [e2] at hq
        exact bad _ _ _ _ hq
      | some v =>
        rw [e2] at hq
        have hlt := (List.getElem?_eq_some_iff.mp e2).1
        dsimp only at hq ⊢
        rw [put_put]
        simp only [dSeq, dAsg, dRet, dRetN, dDrop, dRaise, dBreak, dCont, dPar, dAug, dFor, dNext, dSetF, dAugF, dRaiseF, dIfS, dTest, dOp, dVar, dC, dCB, dCons, dNil, dCall, dAndV, dOrV, dNotV, dAndT, dOrT, dNotT, dIf, dTup, dLst, dLstV, dSl, dSlV, rdSlV, oSome, oNone, dNeg, gN, gT, gConsD, gNilD, gSubD, gFldD, dChain, dLc, dBM, isLst, iSeqD, iR1, iR2, iR3, dYes, rdAddV, rdMulV, rdSub, rdDiv, rdMod, rdPow, rdIAdd, rdCmp, rdIsN, isn_non, isn_bl, isn_int, isn_str, isn_ref, isn_tup, isn_rol, isn_obj, rdEqG, rdIx_tup, rdIx_rol, rdIx_put, rdSet, rdLen_tup, rdLen_rol, rdLen_str, rdLen_put, rdInt1, rdInt, rdInt2, rdAppend, rdExt, rdPopAt, rdMaxL, rdMinL, rdListV, rdIsB, isBlV, rdStrI, rdIntS, dFrz, dFld, insOf_put, dMeth, lstOf_rol, lstOf_put, seqOf_tup, seqOf_rol, seqOf_put, frz_tup, frz_rol, frz_int, frz_bl, frz_non, frz_str, frz_obj, startN, wipeD, List.map_cons, List.map_nil, List.length_cons, List.length_nil, Nat.zero_add, Nat.sub_self, Nat.reduceAdd, Nat.reduceSub, List.replicate_succ, List.replicate_zero, List.cons_append, List.nil_append, List.append_nil, List.getElem?_cons_zero, List.getElem?_cons_succ, List.set_cons_zero, List.set_cons_succ, Option.some.injEq, exists_eq_left', DEnds.xd, atI_0, atI_1, atI_2, atI_3, atI_4, atI_5, atI_6, atI_7, ixN_50, ixN_51, ixN_52, ixN_53, ixN_54, ixN_30, ixN_31, ixN_32, put_same, put_put, true_and, and_true, decide_true, decide_false, Bool.not_true, Bool.not_false, Bool.false_eq_true, if_true, if_false, decide_eq_true_eq, Bool.not_eq_true', decide_eq_false_iff_not, mem_one, ex_one, and_self, i_Reader, l_Reader, h_Reader_next_number, h_Reader_next_integer, h_Reader_next_integers, h_Reader_next_byte, h_Reader_finish, g_Reader_row, p_Reader_row, k_Reader_row, g_Reader_at, p_Reader_at, k_Reader_at, g_Reader_last, p_Reader_last, k_Reader_last, ins_rdr]
        refine ⟨x, dx, xs, _, here + 1, rfl, put_same, hr, by omega, ?_⟩
        rw [put_put]
        cases e3 : readO xs (here + 1) with
        | none =>
          rw [e3] at hq
          exact bad _ _ _ _ hq
        | some q =>
          obtain ⟨m, b⟩ := q
          obtain ⟨m0, m1, m2, m3⟩ := readO_ok e3
          rw [e3] at hq
          dsimp only at hq ⊢
          rw [put_put]
          have two2 : ∀ R, (put (put S p (.lst (List.map Dv.int found))) x R) p = some (.lst (List.map Dv.int found)) := two
          have raise : badRun found m v → ∀ d, (put (put S p (.lst (List.map Dv.int found))) x (rdr A dx xs (.int b) (.int (here + 1 : Nat)))) d = none → ∃ T, VD.Sub T (put (put (put S p (.lst (List.map Dv.int found))) x (rdr A dx xs (.int b) (.int (here + 1 : Nat)))) d (.xd [(Str.ofString "place", .int here)])) ∧ X (.ref A.BadRow) (some d) T := by
            intro hb
            rw [if_pos hb] at hq
            exact bad _ _ _ _ hq
          simp only [dSeq, dAsg, dRet, dRetN, dDrop, dRaise, dBreak, dCont, dPar, dAug, dFor, dNext, dSetF, dAugF, dRaiseF, dIfS, dTest, dOp, dVar, dC, dCB, dCons, dNil, dCall, dAndV, dOrV, dNotV, dAndT, dOrT, dNotT, dIf, dTup, dLst, dLstV, dSl, dSlV, rdSlV, oSome, oNone, dNeg, gN, gT, gConsD, gNilD, gSubD, gFldD, dChain, dLc, dBM, isLst, iSeqD, iR1, iR2, iR3, dYes, rdAddV, rdMulV, rdSub, rdDiv, rdMod, rdPow, rdIAdd, rdCmp, rdIsN, isn_non, isn_bl, isn_int, isn_str, isn_ref, isn_tup, isn_rol, isn_obj, rdEqG, rdIx_tup, rdIx_rol, rdIx_put, rdSet, rdLen_tup, rdLen_rol, rdLen_str, rdLen_put, rdInt1, rdInt, rdInt2, rdAppend, rdExt, rdPopAt, rdMaxL, rdMinL, rdListV, rdIsB, isBlV, rdStrI, rdIntS, dFrz, dFld, insOf_put, dMeth, lstOf_rol, lstOf_put, seqOf_tup, seqOf_rol, seqOf_put, frz_tup, frz_rol, frz_int, frz_bl, frz_non, frz_str, frz_obj, startN, wipeD, List.map_cons, List.map_nil, List.length_cons, List.length_nil, Nat.zero_add, Nat.sub_self, Nat.reduceAdd, Nat.reduceSub, List.replicate_succ, List.replicate_zero, List.cons_append, List.nil_append, List.append_nil, List.getElem?_cons_zero, List.getElem?_cons_succ, List.set_cons_zero, List.set_cons_succ, Option.some.injEq, exists_eq_left', DEnds.xd, atI_0, atI_1, atI_2, atI_3, atI_4, atI_5, atI_6, atI_7, ixN_50, ixN_51, ixN_52, ixN_53, ixN_54, ixN_30, ixN_31, ixN_32, put_same, put_put, true_and, and_true, decide_true, decide_false, Bool.not_true, Bool.not_false, Bool.false_eq_true, if_true, if_false, decide_eq_true_eq, Bool.not_eq_true', decide_eq_false_iff_not, mem_one, ex_one, and_self, i_Reader, l_Reader, h_Reader_next_number, h_Reader_next_integer, h_Reader_next_integers, h_Reader_next_byte, h_Reader_finish, g_Reader_row, p_Reader_row, k_Reader_row, g_Reader_at, p_Reader_at, k_Reader_at, g_Reader_last, p_Reader_last, k_Reader_last, rdLen_ref (two _)]
          have next : ¬ badRun found m v → ∃ (here' : Nat) (found' : List Int) (l y2 y3 y4 y5 : _), put (put (put S p (.lst (List.map Dv.int found))) x (rdr A dx xs (.int b) (.int (here + 1 : Nat)))) p (.lst (List.map Dv.int found ++ (List.replicate m.toNat [Dv.int v]).flatten)) = put (put S p (.lst (List.map Dv.int found'))) x (rdr A dx xs (.int here') l) ∧ here' ≤ xs.length ∧
              parse xs i = parseR (n.toNat - (j + 1)) xs here' found' ∧ found'.length ≤ 100000 ∧ [some (.ref x), some (.ref p), some z, some (.int v), some (.int here), some (.int m)] = [some (.ref x), some (.ref p), y2, y3, y4, y5] := fun hb => by
            rw [if_neg hb] at hq
            unfold badRun at hb
            have b2 : ¬ 100000 < (found.length : Int) + m := fun z => hb (.inr (.inl z))
            refine ⟨b, found ++ List.replicate m.toNat v, .int (here + 1 : Nat), _, _, _, _, ?_, m3, by rw [hq, show n.toNat - (j + 1) = k by omega], by simp; omega, rfl⟩
            rw [put_comm hpx.symm, put_put, flat_one, List.map_append, List.map_replicate]
          have fits : ¬ badRun found m v → (-2 ^ 63 ≤ m ∧ m < 2 ^ 63) ∧ 1 * m.toNat ≤ sizeLine := fun hb => by
            have b2 : ¬ 100000 < (found.length : Int) + m := fun z => hb (.inr (.inl z))
            rw [sizeLine_eq]
            omega
          have fits2 : ¬ badRun found m v → (List.map Dv.int found).length + (List.replicate m.toNat [Dv.int v]).flatten.length ≤ sizeLine := fun hb => by
            have b2 : ¬ 100000 < (found.length : Int) + m := fun z => hb (.inr (.inl z))
            rw [sizeLine_eq, flat_one, List.length_map, List.length_replicate]
            omega
          by_cases c1 : m = 0
          · rw [if_pos c1]
            exact raise (.inl c1)
          rw [if_neg c1]
          by_cases c2 : 100000 < ((List.map Dv.int found).length : Int) + m
          · rw [if_pos c2]
            exact raise (.inr (.inl (by rw [List.length_map] at c2; exact c2)))
          rw [if_neg c2]
          rw [List.length_map] at c2
          rcases List.eq_nil_or_concat found with e | ⟨L, w, e⟩
          · subst e
            have hb : ¬ badRun [] m v := by
              rintro (z | z | z)
              · exact c1 z
              · exact c2 z
              · cases z
            rw [if_neg (by simp)]
            simp only [two]
            exact ⟨trivial, slK, fits hb, fits2 hb, next hb⟩
          · rw [List.concat_eq_append] at e
            rw [if_pos (by rw [e]; simp)]
            refine ix_ref (two _) (by rw [e, List.map_append]; exact atI_m1 _ _) ?_
            simp only [dSeq, dAsg, dRet, dRetN, dDrop, dRaise, dBreak, dCont, dPar, dAug, dFor, dNext, dSetF, dAugF, dRaiseF, dIfS, dTest, dOp, dVar, dC, dCB, dCons, dNil, dCall, dAndV, dOrV, dNotV, dAndT, dOrT, dNotT, dIf, dTup, dLst, dLstV, dSl, dSlV, rdSlV, oSome, oNone, dNeg, gN, gT, gConsD, gNilD, gSubD, gFldD, dChain, dLc, dBM, isLst, iSeqD, iR1, iR2, iR3, dYes, rdAddV, rdMulV, rdSub, rdDiv, rdMod, rdPow, rdIAdd, rdCmp, rdIsN, isn_non, isn_bl, isn_int, isn_str, isn_ref, isn_tup, isn_rol, isn_obj, rdEqG, rdIx_tup, rdIx_rol, rdIx_put, rdSet, rdLen_tup, rdLen_rol, rdLen_str, rdLen_put, rdInt1, rdInt, rdInt2, rdAppend, rdExt, rdPopAt, rdMaxL, rdMinL, rdListV, rdIsB, isBlV, rdStrI, rdIntS, dFrz, dFld, insOf_put, dMeth, lstOf_rol, lstOf_put, seqOf_tup, seqOf_rol, seqOf_put, frz_tup, frz_rol, frz_int, frz_bl, frz_non, frz_str, frz_obj, startN, wipeD, List.map_cons, List.map_nil, List.length_cons, List.length_nil, Nat.zero_add, Nat.sub_self, Nat.reduceAdd, Nat.reduceSub, List.replicate_succ, List.replicate_zero, List.cons_append, List.nil_append, List.append_nil, List.getElem?_cons_zero, List.getElem?_cons_succ, List.set_cons_zero, List.set_cons_succ, Option.some.injEq, exists_eq_left', DEnds.xd, atI_0, atI_1, atI_2, atI_3, atI_4, atI_5, atI_6, atI_7, ixN_50, ixN_51, ixN_52, ixN_53, ixN_54, ixN_30, ixN_31, ixN_32, put_same, put_put, true_and, and_true, decide_true, decide_false, Bool.not_true, Bool.not_false, Bool.false_eq_true, if_true, if_false, decide_eq_true_eq, Bool.not_eq_true', decide_eq_false_iff_not, mem_one, ex_one, and_self, i_Reader, l_Reader, h_Reader_next_number, h_Reader_next_integer, h_Reader_next_integers, h_Reader_next_byte, h_Reader_finish, g_Reader_row, p_Reader_row, k_Reader_row, g_Reader_at, p_Reader_at, k_Reader_at, g_Reader_last, p_Reader_last, k_Reader_last]
            by_cases c3 : w = v
            · rw [if_pos c3]
              exact raise (.inr (.inr (by rw [e, c3]; simp)))
            · have hb : ¬ badRun found m v := by
                rintro (z | z | z)
                · exact c1 z
                · exact c2 z
                · rw [e] at z; simp at z; exact c3 z
              rw [if_neg c3]
              simp only [two]
              exact ⟨trivial, slK, fits hb, fits2 hb, next hb⟩
    · obtain ⟨here, found, l, y2, y3, y4, y5, rfl, hh, hq, hf, rfl⟩ := hw
      rw [rangeL_len, Nat.sub_self] at hq
      unfold told at h
      rw [hq] at h
      simp only [dSeq, dAsg, dRet, dRetN, dDrop, dRaise, dBreak, dCont, dPar, dAug, dFor, dNext, dSetF, dAugF, dRaiseF, dIfS, dTest, dOp, dVar, dC, dCB, dCons, dNil, dCall, dAndV, dOrV, dNotV, dAndT, dOrT, dNotT, dIf, dTup, dLst, dLstV, dSl, dSlV, rdSlV, oSome, oNone, dNeg, gN, gT, gConsD, gNilD, gSubD, gFldD, dChain, dLc, dBM, isLst, iSeqD, iR1, iR2, iR3, dYes, rdAddV, rdMulV, rdSub, rdDiv, rdMod, rdPow, rdIAdd, rdCmp, rdIsN, isn_non, isn_bl, isn_int, isn_str, isn_ref, isn_tup, isn_rol, isn_obj, rdEqG, rdIx_tup, rdIx_rol, rdIx_put, rdSet, rdLen_tup, rdLen_rol, rdLen_str, rdLen_put, rdInt1, rdInt, rdInt2, rdAppend, rdExt, rdPopAt, rdMaxL, rdMinL, rdListV, rdIsB, isBlV, rdStrI, rdIntS, dFrz, dFld, insOf_put, dMeth, lstOf_rol, lstOf_put, seqOf_tup, seqOf_rol, seqOf_put, frz_tup, frz_rol, frz_int, frz_bl, frz_non, frz_str, frz_obj, startN, wipeD, List.map_cons, List.map_nil, List.length_cons, List.length_nil, Nat.zero_add, Nat.sub_self, Nat.reduceAdd, Nat.reduceSub, List.replicate_succ, List.replicate_zero, List.cons_append, List.nil_append, List.append_nil, List.getElem?_cons_zero, List.getElem?_cons_succ, List.set_cons_zero, List.set_cons_succ, Option.some.injEq, exists_eq_left', DEnds.xd, atI_0, atI_1, atI_2, atI_3, atI_4, atI_5, atI_6, atI_7, ixN_50, ixN_51, ixN_52, ixN_53, ixN_54, ixN_30, ixN_31, ixN_32, put_same, put_put, true_and, and_true, decide_true, decide_false, Bool.not_true, Bool.not_false, Bool.false_eq_true, if_true, if_false, decide_eq_true_eq, Bool.not_eq_true', decide_eq_false_iff_not, mem_one, ex_one, and_self, i_Reader, l_Reader, h_Reader_next_number, h_Reader_next_integer, h_Reader_next_integers, h_Reader_next_byte, h_Reader_finish, g_Reader_row, p_Reader_row, k_Reader_row, g_Reader_at, p_Reader_at, k_Reader_at, g_Reader_last, p_Reader_last, k_Reader_last]
      unfold rdTuple
      refine (seqOf_ref (by rw [put_ne hpx, put_same])).mpr ⟨put S x (rdr A dx xs (.int here) l), ?_, _, Sub.refl _, h l⟩
      exact Sub.put (Sub.new hp)
def sp_read_inputs (A : Ad) : SpD := fun ds S Q X => ∃ xs, ∃ i : Nat, ds = [.tup (List.map Dv.int xs), .int i] ∧ rowOk xs ∧ i ≤ xs.length ∧ match parse xs i with
  | .error pl => badX A.BadRow pl S X
  | .ok (ys, b) => Q (.tup [.tup (List.map Dv.int ys), .int (b : Nat)]) S
theorem len_read_inputs (A : Ad) : ∀ ds S Q X, sp_read_inputs A ds S Q X → ds.length = 2 := by rintro _ _ _ _ ⟨_, _, rfl, _⟩; rfl
def r_read_inputs (A : Ad) : DS := (dSeq (dDrop (dCall (sp_check_place A) (dCons (dVar 0) (dCons (dVar 1) dNil))))
    (dSeq (dAsg (dCall (sp_Reader A) (dCons (dVar 0) (dCons (dVar 1) dNil))) (gN 2))
    (dSeq (dAsg (dCall (sp_taken_inputs A) (dCons (dVar 2) dNil)) (gN 3))
    (dRet (dTup (dCons (dVar 3) (dCons (dFld [A.Reader] (Str.ofString "at") (dVar 2)) dNil)))))))
theorem rd_read_inputs (A : Ad) : RdF (r_read_inputs A) 4 (sp_read_inputs A) := by
  rintro ds S Q X ⟨xs, i, rfl, hr, hi, h⟩
  unfold r_read_inputs
  simp only [dSeq, dAsg, dRet, dRetN, dDrop, dRaise, dBreak, dCont, dPar, dAug, dFor, dNext, dSetF, dAugF, dRaiseF, dIfS, dTest, dOp, dVar, dC, dCB, dCons, dNil, dCall, dAndV, dOrV, dNotV, dAndT, dOrT, dNotT, dIf, dTup, dLst, dLstV, dSl, dSlV, rdSlV, oSome, oNone, dNeg, gN, gT, gConsD, gNilD, gSubD, gFldD, dChain, dLc, dBM, isLst, iSeqD, iR1, iR2, iR3, dYes, rdAddV, rdMulV, rdSub, rdDiv, rdMod, rdPow, rdIAdd, rdCmp, rdIsN, isn_non, isn_bl, isn_int, isn_str, isn_ref, isn_tup, isn_rol, isn_obj, rdEqG, rdIx_tup, rdIx_rol, rdIx_put, rdSet, rdLen_tup, rdLen_rol, rdLen_str, rdLen_put, rdInt1, rdInt, rdInt2, rdAppend, rdExt, rdPopAt, rdMaxL, rdMinL, rdListV, rdIsB, isBlV, rdStrI, rdIntS, dFrz, dFld, insOf_put, dMeth, lstOf_rol, lstOf_put, seqOf_tup, seqOf_rol, seqOf_put, frz_tup, frz_rol, frz_int, frz_bl, frz_non, frz_str, frz_obj, startN, wipeD, List.map_cons, List.map_nil, List.length_cons, List.length_nil, Nat.zero_add, Nat.sub_self, Nat.reduceAdd, Nat.reduceSub, List.replicate_succ, List.replicate_zero, List.cons_append, List.nil_append, List.append_nil, List.getElem?_cons_zero, List.getElem?_cons_succ, List.set_cons_zero, List.set_cons_succ, Option.some.injEq, exists_eq_left', DEnds.xd, atI_0, atI_1, atI_2, atI_3, atI_4, atI_5, atI_6, atI_7, ixN_50, ixN_51, ixN_52, ixN_53, ixN_54, ixN_30, ixN_31, ixN_32, put_same, put_put, true_and, and_true, decide_true, decide_false, Bool.not_true, Bool.not_false, Bool.false_eq_true, if_true, if_false, decide_eq_true_eq, Bool.not_eq_true', decide_eq_false_iff_not, mem_one, ex_one, and_self, i_Reader, l_Reader, h_Reader_next_number, h_Reader_next_integer, h_Reader_next_integers, h_Reader_next_byte, h_Reader_finish, g_Reader_row, p_Reader_row, k_Reader_row, g_Reader_at, p_Reader_at, k_Reader_at, g_Reader_last, p_Reader_last, k_Reader_last]
  refine ⟨xs, i, rfl, hr, hi, xs, i, rfl, fun x dx hx => ?_⟩
  refine ⟨x, dx, xs, _, i, rfl, put_same, hr, hi, ?_⟩
  unfold told
  cases e : parse xs i with
  | error pl =>
    rw [e] at h
    intro a l d hd
    rw [put_put] at hd ⊢
    have h1 : d ≠ x := fun z => by subst z; rw [put_same] at hd; cases hd
    rw [put_ne h1] at hd
    exact ⟨_, Sub.put (Sub.new hx), h d hd⟩
  | ok q =>
    obtain ⟨ys, b⟩ := q
    rw [e] at h
    intro l
    simp only [dSeq, dAsg, dRet, dRetN, dDrop, dRaise, dBreak, dCont, dPar, dAug, dFor, dNext, dSetF, dAugF, dRaiseF, dIfS, dTest, dOp, dVar, dC, dCB, dCons, dNil, dCall, dAndV, dOrV, dNotV, dAndT, dOrT, dNotT, dIf, dTup, dLst, dLstV, dSl, dSlV, rdSlV, oSome, oNone, dNeg, gN, gT, gConsD, gNilD, gSubD, gFldD, dChain, dLc, dBM, isLst, iSeqD, iR1, iR2, iR3, dYes, rdAddV, rdMulV, rdSub, rdDiv, rdMod, rdPow, rdIAdd, rdCmp, rdIsN, isn_non, isn_bl, isn_int, isn_str, isn_ref, isn_tup, isn_rol, isn_obj, rdEqG, rdIx_tup, rdIx_rol, rdIx_put, rdSet, rdLen_tup, rdLen_rol, rdLen_str, rdLen_put, rdInt1, rdInt, rdInt2, rdAppend, rdExt, rdPopAt, rdMaxL, rdMinL, rdListV, rdIsB, isBlV, rdStrI, rdIntS, dFrz, dFld, insOf_put, dMeth, lstOf_rol, lstOf_put, seqOf_tup, seqOf_rol, seqOf_put, frz_tup, frz_rol, frz_int, frz_bl, frz_non, frz_str, frz_obj, startN, wipeD, List.map_cons, List.map_nil, List.length_cons, List.length_nil, Nat.zero_add, Nat.sub_self, Nat.reduceAdd, Nat.reduceSub, List.replicate_succ, List.replicate_zero, List.cons_append, List.nil_append, List.append_nil, List.getElem?_cons_zero, List.getElem?_cons_succ, List.set_cons_zero, List.set_cons_succ, Option.some.injEq, exists_eq_left', DEnds.xd, atI_0, atI_1, atI_2, atI_3, atI_4, atI_5, atI_6, atI_7, ixN_50, ixN_51, ixN_52, ixN_53, ixN_54, ixN_30, ixN_31, ixN_32, put_same, put_put, true_and, and_true, decide_true, decide_false, Bool.not_true, Bool.not_false, Bool.false_eq_true, if_true, if_false, decide_eq_true_eq, Bool.not_eq_true', decide_eq_false_iff_not, mem_one, ex_one, and_self, i_Reader, l_Reader, h_Reader_next_number, h_Reader_next_integer, h_Reader_next_integers, h_Reader_next_byte, h_Reader_finish, g_Reader_row, p_Reader_row, k_Reader_row, g_Reader_at, p_Reader_at, k_Reader_at, g_Reader_last, p_Reader_last, k_Reader_last, put_put, ins_rdr]
    exact ⟨sl2, S, Sub.new hx, h⟩
def gsF (last : Dv) (ago hold : Int) : Dv := if isNon last = true then .int 0 else if ago ≤ hold then last else .int 0
def sp_guessed (A : Ad) : SpD := fun ds S Q _ => ∃ last ago hold, ds = [last, .int ago, .int hold] ∧ Q (gsF last ago hold) S
theorem len_guessed (A : Ad) : ∀ ds S Q X, sp_guessed A ds S Q X → ds.length = 3 := by rintro _ _ _ _ ⟨_, _, _, rfl, _⟩; rfl
def r_guessed (A : Ad) : DS := (dRet (dIf (dAndT (dTest (dOp (rdIsN fun b => !b) (dVar 0) (dC .non))) (dTest (dOp rdLe (dVar 1) (dVar 2)))) (dVar 0) (dC (.int 0))))
theorem rd_guessed (A : Ad) : Rd (r_guessed A) 3 (sp_guessed A) := by
  rintro ds S Q X ⟨last, ago, hold, rfl, h⟩
  unfold r_guessed
  simp only [dSeq, dAsg, dRet, dRetN, dDrop, dRaise, dBreak, dCont, dPar, dAug, dFor, dNext, dSetF, dAugF, dRaiseF, dIfS, dTest, dOp, dVar, dC, dCB, dCons, dNil, dCall, dAndV, dOrV, dNotV, dAndT, dOrT, dNotT, dIf, dTup, dLst, dLstV, dSl, dSlV, rdSlV, oSome, oNone, dNeg, gN, gT, gConsD, gNilD, gSubD, gFldD, dChain, dLc, dBM, isLst, iSeqD, iR1, iR2, iR3, dYes, rdAddV, rdMulV, rdSub, rdDiv, rdMod, rdPow, rdIAdd, rdCmp, rdIsN, isn_non, isn_bl, isn_int, isn_str, isn_ref, isn_tup, isn_rol, isn_obj, rdEqG, rdIx_tup, rdIx_rol, rdIx_put, rdSet, rdLen_tup, rdLen_rol, rdLen_str, rdLen_put, rdInt1, rdInt, rdInt2, rdAppend, rdExt, rdPopAt, rdMaxL, rdMinL, rdListV, rdIsB, isBlV, rdStrI, rdIntS, dFrz, dFld, insOf_put, dMeth, lstOf_rol, lstOf_put, seqOf_tup, seqOf_rol, seqOf_put, frz_tup, frz_rol, frz_int, frz_bl, frz_non, frz_str, frz_obj, startN, wipeD, List.map_cons, List.map_nil, List.length_cons, List.length_nil, Nat.zero_add, Nat.sub_self, Nat.reduceAdd, Nat.reduceSub, List.replicate_succ, List.replicate_zero, List.cons_append, List.nil_append, List.append_nil, List.getElem?_cons_zero, List.getElem?_cons_succ, List.set_cons_zero, List.set_cons_succ, Option.some.injEq, exists_eq_left', DEnds.xd, atI_0, atI_1, atI_2, atI_3, atI_4, atI_5, atI_6, atI_7, ixN_50, ixN_51, ixN_52, ixN_53, ixN_54, ixN_30, ixN_31, ixN_32, put_same, put_put, true_and, and_true, decide_true, decide_false, Bool.not_true, Bool.not_false, Bool.false_eq_true, if_true, if_false, decide_eq_true_eq, Bool.not_eq_true', decide_eq_false_iff_not, mem_one, ex_one, and_self, i_Reader, l_Reader, h_Reader_next_number, h_Reader_next_integer, h_Reader_next_integers, h_Reader_next_byte, h_Reader_finish, g_Reader_row, p_Reader_row, k_Reader_row, g_Reader_at, p_Reader_at, k_Reader_at, g_Reader_last, p_Reader_last, k_Reader_last]
  unfold gsF at h
  cases e : VD.isNon last with
  | true => rw [if_pos e] at h; rw [if_neg (by simp)]; exact h
  | false =>
    rw [if_neg (by rw [e]; decide)] at h
    rw [if_pos rfl]
    split at h
    · rename_i q; rw [if_pos q]; exact h
    · rename_i q; rw [if_neg q]; exact h
def sp_guess (A : Ad) : SpD := fun ds S Q _ => ∃ last ago hold, ds = [last, .int ago, .int hold] ∧ (last = .non ∨ ∃ b, last = .int b ∧ 0 ≤ b ∧ b < 256) ∧ (0 ≤ ago ∧ ago ≤ 100000) ∧ (0 ≤ hold ∧ hold ≤ 600) ∧ Q (gsF last ago hold) S
theorem len_guess (A : Ad) : ∀ ds S Q X, sp_guess A ds S Q X → ds.length = 3 := by rintro _ _ _ _ ⟨_, _, _, rfl, _⟩; rfl
def r_guess (A : Ad) : DS := (dSeq (dIfS (dTest (dOp (rdIsN fun b => !b) (dVar 0) (dC .non))) (dDrop (dCall (sp_check_input A) (dCons (dVar 0) dNil))) dNext)
    (dSeq (dIfS (dOrT (dNotT (dTest (dCall (sp_is_within A) (dCons (dVar 1) (dCons (dC (.int 0)) (dCons (dC (.int 100000)) dNil)))))) (dNotT (dTest (dCall (sp_is_within A) (dCons (dVar 2) (dCons (dC (.int 0)) (dCons (dC (.int 600)) dNil))))))) (dRaise (.ref A.NoNumber)) dNext)
    (dRet (dCall (sp_guessed A) (dCons (dVar 0) (dCons (dVar 1) (dCons (dVar 2) dNil)))))))
theorem rd_guess (A : Ad) : Rd (r_guess A) 3 (sp_guess A) := by
  rintro ds S Q X ⟨last, ago, hold, rfl, hl, ⟨h1, h2⟩, ⟨h3, h4⟩, h⟩
  unfold r_guess
  have go : ∀ T : Rho → Sto → Prop, True := fun _ => trivial
  refine cut_seq (fun ρ T => T = S ∧ ρ = [some last, some (.int ago), some (.int hold)]) (fun N hN => ?_) (fun ρ T hM => ?_)
  · simp only [dSeq, dAsg, dRet, dRetN, dDrop, dRaise, dBreak, dCont, dPar, dAug, dFor, dNext, dSetF, dAugF, dRaiseF, dIfS, dTest, dOp, dVar, dC, dCB, dCons, dNil, dCall, dAndV, dOrV, dNotV, dAndT, dOrT, dNotT, dIf, dTup, dLst, dLstV, dSl, dSlV, rdSlV, oSome, oNone, dNeg, gN, gT, gConsD, gNilD, gSubD, gFldD, dChain, dLc, dBM, isLst, iSeqD, iR1, iR2, iR3, dYes, rdAddV, rdMulV, rdSub, rdDiv, rdMod, rdPow, rdIAdd, rdCmp, rdIsN, isn_non, isn_bl, isn_int, isn_str, isn_ref, isn_tup, isn_rol, isn_obj, rdEqG, rdIx_tup, rdIx_rol, rdIx_put, rdSet, rdLen_tup, rdLen_rol, rdLen_str, rdLen_put, rdInt1, rdInt, rdInt2, rdAppend, rdExt, rdPopAt, rdMaxL, rdMinL, rdListV, rdIsB, isBlV, rdStrI, rdIntS, dFrz, dFld, insOf_put, dMeth, lstOf_rol, lstOf_put, seqOf_tup, seqOf_rol, seqOf_put, frz_tup, frz_rol, frz_int, frz_bl, frz_non, frz_str, frz_obj, startN, wipeD, List.map_cons, List.map_nil, List.length_cons, List.length_nil, Nat.zero_add, Nat.sub_self, Nat.reduceAdd, Nat.reduceSub, List.replicate_succ, List.replicate_zero, List.cons_append, List.nil_append, List.append_nil, List.getElem?_cons_zero, List.getElem?_cons_succ, List.set_cons_zero, List.set_cons_succ, Option.some.injEq, exists_eq_left', DEnds.xd, atI_0, atI_1, atI_2, atI_3, atI_4, atI_5, atI_6, atI_7, ixN_50, ixN_51, ixN_52, ixN_53, ixN_54, ixN_30, ixN_31, ixN_32, put_same, put_put, true_and, and_true, decide_true, decide_false, Bool.not_true, Bool.not_false, Bool.false_eq_true, if_true, if_false, decide_eq_true_eq, Bool.not_eq_true', decide_eq_false_iff_not, mem_one, ex_one, and_self, i_Reader, l_Reader, h_Reader_next_number, h_Reader_next_integer, h_Reader_next_integers, h_Reader_next_byte, h_Reader_finish, g_Reader_row, p_Reader_row, k_Reader_row, g_Reader_at, p_Reader_at, k_Reader_at, g_Reader_last, p_Reader_last, k_Reader_last]
    rcases hl with rfl | ⟨b, rfl, b1, b2⟩
    · exact hN _ _ ⟨rfl, rfl⟩
    · refine ⟨_, rfl, kn_int, ?_⟩
      rw [if_pos (by rw [within_i]; exact ⟨b, rfl, b1, by omega⟩)]
      exact hN _ _ ⟨rfl, rfl⟩
  · obtain ⟨rfl, rfl⟩ := hM
    simp only [dSeq, dAsg, dRet, dRetN, dDrop, dRaise, dBreak, dCont, dPar, dAug, dFor, dNext, dSetF, dAugF, dRaiseF, dIfS, dTest, dOp, dVar, dC, dCB, dCons, dNil, dCall, dAndV, dOrV, dNotV, dAndT, dOrT, dNotT, dIf, dTup, dLst, dLstV, dSl, dSlV, rdSlV, oSome, oNone, dNeg, gN, gT, gConsD, gNilD, gSubD, gFldD, dChain, dLc, dBM, isLst, iSeqD, iR1, iR2, iR3, dYes, rdAddV, rdMulV, rdSub, rdDiv, rdMod, rdPow, rdIAdd, rdCmp, rdIsN, isn_non, isn_bl, isn_int, isn_str, isn_ref, isn_tup, isn_rol, isn_obj, rdEqG, rdIx_tup, rdIx_rol, rdIx_put, rdSet, rdLen_tup, rdLen_rol, rdLen_str, rdLen_put, rdInt1, rdInt, rdInt2, rdAppend, rdExt, rdPopAt, rdMaxL, rdMinL, rdListV, rdIsB, isBlV, rdStrI, rdIntS, dFrz, dFld, insOf_put, dMeth, lstOf_rol, lstOf_put, seqOf_tup, seqOf_rol, seqOf_put, frz_tup, frz_rol, frz_int, frz_bl, frz_non, frz_str, frz_obj, startN, wipeD, List.map_cons, List.map_nil, List.length_cons, List.length_nil, Nat.zero_add, Nat.sub_self, Nat.reduceAdd, Nat.reduceSub, List.replicate_succ, List.replicate_zero, List.cons_append, List.nil_append, List.append_nil, List.getElem?_cons_zero, List.getElem?_cons_succ, List.set_cons_zero, List.set_cons_succ, Option.some.injEq, exists_eq_left', DEnds.xd, atI_0, atI_1, atI_2, atI_3, atI_4, atI_5, atI_6, atI_7, ixN_50, ixN_51, ixN_52, ixN_53, ixN_54, ixN_30, ixN_31, ixN_32, put_same, put_put, true_and, and_true, decide_true, decide_false, Bool.not_true, Bool.not_false, Bool.false_eq_true, if_true, if_false, decide_eq_true_eq, Bool.not_eq_true', decide_eq_false_iff_not, mem_one, ex_one, and_self, i_Reader, l_Reader, h_Reader_next_number, h_Reader_next_integer, h_Reader_next_integers, h_Reader_next_byte, h_Reader_finish, g_Reader_row, p_Reader_row, k_Reader_row, g_Reader_at, p_Reader_at, k_Reader_at, g_Reader_last, p_Reader_last, k_Reader_last]
    refine ⟨_, _, _, rfl, kn_int, ?_⟩
    rw [show within (.int ago) 0 100000 = true by rw [within_i]; exact ⟨_, rfl, h1, h2⟩]
    dsimp only
    rw [if_neg (by decide)]
    refine ⟨_, _, _, rfl, kn_int, ?_⟩
    rw [show within (.int hold) 0 600 = true by rw [within_i]; exact ⟨_, rfl, h3, h4⟩]
    dsimp only
    rw [if_neg (by decide)]
    exact ⟨_, _, _, rfl, h⟩
end Lw

namespace Lw
open PySem PySem.Spec PyProof.Rows L2 VD
abbrev By (xs : List Int) : Prop := ∀ n ∈ xs, 0 ≤ n ∧ n < 256
theorem By.app {a b : List Int} (h : By a) (g : By b) : By (a ++ b) := fun n hn => (List.mem_append.mp hn).elim (h n) (g n)
theorem By.take {a : List Int} {k : Nat} (h : By a) : By (a.take k) := fun n hn => h n (List.mem_of_mem_take hn)
theorem By.drop {a : List Int} {k : Nat} (h : By a) : By (a.drop k) := fun n hn => h n (List.mem_of_mem_drop hn)
theorem By.one {r : Int} (h0 : 0 ≤ r) (h1 : r < 256) : By [r] := fun n hn => by rw [List.mem_singleton.mp hn]; exact ⟨h0, h1⟩
theorem cut_takeI {xs : List Int} {k : Nat} : VD.cutD (List.map Dv.int xs) none (some (k : Int)) = List.map Dv.int (xs.take k) := by rw [cut_take (by omega), ← List.map_take]; rfl
theorem cut_dropI {xs : List Int} {k : Nat} : VD.cutD (List.map Dv.int xs) (some (k : Int)) none = List.map Dv.int (xs.drop k) := by rw [cut_drop (by omega), ← List.map_drop]; rfl
theorem cut_dropI1 {xs : List Int} {k : Nat} : VD.cutD (List.map Dv.int xs) (some ((k : Int) + 1)) none = List.map Dv.int (xs.drop (k + 1)) := by rw [show ((k : Int) + 1) = ((k + 1 : Nat) : Int) by omega]; exact cut_dropI
def sp__law_spoilt (A : Ad) : SpD := fun ds S Q _ => ∃ a c B, ∃ xs : List Int, ds = [.ref a, .tup (List.map Dv.int xs)] ∧ IsH a c B S ∧ By xs ∧ xs.length ≤ 400000 ∧ ∀ ys S', IsH a c B S' → By ys → ys.length ≤ xs.length + 4 → Q (.tup (List.map Dv.int ys)) S'
theorem len__law_spoilt (A : Ad) : ∀ ds S Q X, sp__law_spoilt A ds S Q X → ds.length = 2 := by rintro _ _ _ _ ⟨_, _, _, _, rfl, _⟩; rfl
def r__law_spoilt (A : Ad) : DS := (dSeq (dAsg (dCall (sp__law_draw A) (dCons (dVar 0) (dCons (dC (.int 5)) dNil))) (gN 2))
    (dSeq (dAsg (dCall (sp__law_draw A) (dCons (dVar 0) (dCons (dOp rdAddV (dCB rdLen (dCons (dVar 1) dNil)) (dC (.int 1))) dNil))) (gN 3))
    (dSeq (dIfS (dTest (dOp rdEq (dVar 2) (dC (.int 0)))) (dRet (dOp rdAddV (dOp rdAddV (dSlV (dVar 1) oNone (oSome (dVar 3))) (dTup (dCons (dCall (sp__law_byte A) (dCons (dVar 0) dNil)) dNil))) (dSlV (dVar 1) (oSome (dOp rdAddV (dVar 3) (dC (.int 1)))) oNone))) dNext)
    (dSeq (dIfS (dTest (dOp rdEq (dVar 2) (dC (.int 1)))) (dRet (dOp rdAddV (dOp rdAddV (dSlV (dVar 1) oNone (oSome (dVar 3))) (dTup (dCons (dCall (sp__law_byte A) (dCons (dVar 0) dNil)) dNil))) (dSlV (dVar 1) (oSome (dVar 3)) oNone))) dNext)
    (dSeq (dIfS (dTest (dOp rdEq (dVar 2) (dC (.int 2)))) (dRet (dOp rdAddV (dSlV (dVar 1) oNone (oSome (dVar 3))) (dSlV (dVar 1) (oSome (dOp rdAddV (dVar 3) (dC (.int 1)))) oNone))) dNext)
    (dSeq (dIfS (dTest (dOp rdEq (dVar 2) (dC (.int 3)))) (dRet (dSlV (dVar 1) oNone (oSome (dVar 3)))) dNext)
    (dRet (dOp rdAddV (dVar 1) (dCall (sp__law_bytes A) (dCons (dVar 0) (dCons (dC (.int 4)) dNil)))))))))))
theorem rd__law_spoilt (A : Ad) : Rd (r__law_spoilt A) 4 (sp__law_spoilt A) := by
  rintro ds S Q X ⟨a, c, B, xs, rfl, hH, hx, hl, h⟩
  unfold r__law_spoilt
  simp only [dIfS, dTest, dOp, dVar, dC, dCB, dCons, dNil, dCall, dAndV, dOrV, dNotV, dAndT, dOrT, dNotT, dIf, dTup, dLst, dLstV, dSl, dSlV, rdSlV, oSome, oNone, dNeg, gN, gT, gConsD, gNilD, gSubD, gFldD, dChain, dLc, dBM, isLst, iSeqD, iR1, iR2, iR3, dYes, rdAddV, rdMulV, rdSub, rdDiv, rdMod, rdPow, rdIAdd, rdCmp, rdIsN, isn_non, isn_bl, isn_int, isn_str, isn_ref, isn_tup, isn_rol, isn_obj, rdEqG, rdIx_tup, rdIx_rol, rdIx_put, rdSet, rdLen_tup, rdLen_rol, rdLen_str, rdLen_put, rdInt1, rdInt, rdInt2, rdAppend, rdExt, rdPopAt, rdMaxL, rdMinL, rdListV, rdIsB, isBlV, rdStrI, rdIntS, dFrz, dFld, insOf_put, dMeth, lstOf_rol, lstOf_put, seqOf_tup, seqOf_rol, seqOf_put, frz_tup, frz_rol, frz_int, frz_bl, frz_non, frz_str, frz_obj, startN, wipeD, List.map_cons, List.map_nil, List.length_cons, List.length_nil, Nat.zero_add, Nat.sub_self, Nat.reduceAdd, Nat.reduceSub, List.replicate_succ, List.replicate_zero, List.cons_append, List.nil_append, List.append_nil, List.getElem?_cons_zero, List.getElem?_cons_succ, List.set_cons_zero, List.set_cons_succ, Option.some.injEq, exists_eq_left', DEnds.xd, atI_0, atI_1, atI_2, atI_3, atI_4, atI_5, atI_6, atI_7, ixN_50, ixN_51, ixN_52, ixN_53, ixN_54, ixN_30, ixN_31, ixN_32, put_same, put_put, true_and, and_true, decide_true, decide_false, Bool.not_true, Bool.not_false, Bool.false_eq_true, if_true, if_false, decide_eq_true_eq, Bool.not_eq_true', decide_eq_false_iff_not, mem_one, ex_one, and_self]
  refine cut_seq (fun ρ T => IsH a c B T ∧ ∃ k : Int, ρ = [some (.ref a), some (.tup (List.map Dv.int xs)), some (.int k), none]) (fun N hN => ?_) (fun ρ T hM => ?_)
  · simp only [dSeq, dAsg, dRet, dRetN, dDrop, dRaise, dBreak, dCont, dPar, dAug, dFor, dNext, dSetF, dAugF, dRaiseF, dIfS, dTest, dOp, dVar, dC, dCB, dCons, dNil, dCall, dAndV, dOrV, dNotV, dAndT, dOrT, dNotT, dIf, dTup, dLst, dLstV, dSl, dSlV, rdSlV, oSome, oNone, dNeg, gN, gT, gConsD, gNilD, gSubD, gFldD, dChain, dLc, dBM, isLst, iSeqD, iR1, iR2, iR3, dYes, rdAddV, rdMulV, rdSub, rdDiv, rdMod, rdPow, rdIAdd, rdCmp, rdIsN, isn_non, isn_bl, isn_int, isn_str, isn_ref, isn_tup, isn_rol, isn_obj, rdEqG, rdIx_tup, rdIx_rol, rdIx_put, rdSet, rdLen_tup, rdLen_rol, rdLen_str, rdLen_put, rdInt1, rdInt, rdInt2, rdAppend, rdExt, rdPopAt, rdMaxL, rdMinL, rdListV, rdIsB, isBlV, rdStrI, rdIntS, dFrz, dFld, insOf_put, dMeth, lstOf_rol, lstOf_put, seqOf_tup, seqOf_rol, seqOf_put, frz_tup, frz_rol, frz_int, frz_bl, frz_non, frz_str, frz_obj, startN, wipeD, List.map_cons, List.map_nil, List.length_cons, List.length_nil, Nat.zero_add, Nat.sub_self, Nat.reduceAdd, Nat.reduceSub, List.replicate_succ, List.replicate_zero, List.cons_append, List.nil_append, List.append_nil, List.getElem?_cons_zero, List.getElem?_cons_succ, List.set_cons_zero, List.set_cons_succ, Option.some.injEq, exists_eq_left', DEnds.xd, atI_0, atI_1, atI_2, atI_3, atI_4, atI_5, atI_6, atI_7, ixN_50, ixN_51, ixN_52, ixN_53, ixN_54, ixN_30, ixN_31, ixN_32, put_same, put_put, true_and, and_true, decide_true, decide_false, Bool.not_true, Bool.not_false, Bool.false_eq_true, if_true, if_false, decide_eq_true_eq, Bool.not_eq_true', decide_eq_false_iff_not, mem_one, ex_one, and_self]
    exact ask hH fun r T ht h1 h2 => hN _ _ ⟨ht, r, rfl⟩
  obtain ⟨hH, k, rfl⟩ := hM
  refine cut_seq (fun ρ T => IsH a c B T ∧ ∃ i : Nat, i ≤ xs.length ∧ ρ = [some (.ref a), some (.tup (List.map Dv.int xs)), some (.int k), some (.int (i : Nat))]) (fun N hN => ?_) (fun ρ T hM => ?_)
  · simp only [dSeq, dAsg, dRet, dRetN, dDrop, dRaise, dBreak, dCont, dPar, dAug, dFor, dNext, dSetF, dAugF, dRaiseF, dIfS, dTest, dOp, dVar, dC, dCB, dCons, dNil, dCall, dAndV, dOrV, dNotV, dAndT, dOrT, dNotT, dIf, dTup, dLst, dLstV, dSl, dSlV, rdSlV, oSome, oNone, dNeg, gN, gT, gConsD, gNilD, gSubD, gFldD, dChain, dLc, dBM, isLst, iSeqD, iR1, iR2, iR3, dYes, rdAddV, rdMulV, rdSub, rdDiv, rdMod, rdPow, rdIAdd, rdCmp, rdIsN, isn_non, isn_bl, isn_int, isn_str, isn_ref, isn_tup, isn_rol, isn_obj, rdEqG, rdIx_tup, rdIx_rol, rdIx_put, rdSet, rdLen_tup, rdLen_rol, rdLen_str, rdLen_put, rdInt1, rdInt, rdInt2, rdAppend, rdExt, rdPopAt, rdMaxL, rdMinL, rdListV, rdIsB, isBlV, rdStrI, rdIntS, dFrz, dFld, insOf_put, dMeth, lstOf_rol, lstOf_put, seqOf_tup, seqOf_rol, seqOf_put, frz_tup, frz_rol, frz_int, frz_bl, frz_non, frz_str, frz_obj, startN, wipeD, List.map_cons, List.map_nil, List.length_cons, List.length_nil, Nat.zero_add, Nat.sub_self, Nat.reduceAdd, Nat.reduceSub, List.replicate_succ, List.replicate_zero, List.cons_append, List.nil_append, List.append_nil, List.getElem?_cons_zero, List.getElem?_cons_succ, List.set_cons_zero, List.set_cons_succ, Option.some.injEq, exists_eq_left', DEnds.xd, atI_0, atI_1, atI_2, atI_3, atI_4, atI_5, atI_6, atI_7, ixN_50, ixN_51, ixN_52, ixN_53, ixN_54, ixN_30, ixN_31, ixN_32, put_same, put_put, true_and, and_true, decide_true, decide_false, Bool.not_true, Bool.not_false, Bool.false_eq_true, if_true, if_false, decide_eq_true_eq, Bool.not_eq_true', decide_eq_false_iff_not, mem_one, ex_one, and_self]
    refine ask hH (fun r T ht h1 h2 => hN _ _ ⟨ht, r.toNat, ?_, ?_⟩) (by omega) (by rw [List.length_map]; omega)
    · rw [List.length_map] at h2; omega
    · rw [show ((r.toNat : Nat) : Int) = r by omega]
  obtain ⟨hH, i, hi, rfl⟩ := hM
  simp only [dSeq, dAsg, dRet, dRetN, dDrop, dRaise, dBreak, dCont, dPar, dAug, dFor, dNext, dSetF, dAugF, dRaiseF, dIfS, dTest, dOp, dVar, dC, dCB, dCons, dNil, dCall, dAndV, dOrV, dNotV, dAndT, dOrT, dNotT, dIf, dTup, dLst, dLstV, dSl, dSlV, rdSlV, oSome, oNone, dNeg, gN, gT, gConsD, gNilD, gSubD, gFldD, dChain, dLc, dBM, isLst, iSeqD, iR1, iR2, iR3, dYes, rdAddV, rdMulV, rdSub, rdDiv, rdMod, rdPow, rdIAdd, rdCmp, rdIsN, isn_non, isn_bl, isn_int, isn_str, isn_ref, isn_tup, isn_rol, isn_obj, rdEqG, rdIx_tup, rdIx_rol, rdIx_put, rdSet, rdLen_tup, rdLen_rol, rdLen_str, rdLen_put, rdInt1, rdInt, rdInt2, rdAppend, rdExt, rdPopAt, rdMaxL, rdMinL, rdListV, rdIsB, isBlV, rdStrI, rdIntS, dFrz, dFld, insOf_put, dMeth, lstOf_rol, lstOf_put, seqOf_tup, seqOf_rol, seqOf_put, frz_tup, frz_rol, frz_int, frz_bl, frz_non, frz_str, frz_obj, startN, wipeD, List.map_cons, List.map_nil, List.length_cons, List.length_nil, Nat.zero_add, Nat.sub_self, Nat.reduceAdd, Nat.reduceSub, List.replicate_succ, List.replicate_zero, List.cons_append, List.nil_append, List.append_nil, List.getElem?_cons_zero, List.getElem?_cons_succ, List.set_cons_zero, List.set_cons_succ, Option.some.injEq, exists_eq_left', DEnds.xd, atI_0, atI_1, atI_2, atI_3, atI_4, atI_5, atI_6, atI_7, ixN_50, ixN_51, ixN_52, ixN_53, ixN_54, ixN_30, ixN_31, ixN_32, put_same, put_put, true_and, and_true, decide_true, decide_false, Bool.not_true, Bool.not_false, Bool.false_eq_true, if_true, if_false, decide_eq_true_eq, Bool.not_eq_true', decide_eq_false_iff_not, mem_one, ex_one, and_self, cut_takeI, cut_dropI, cut_dropI1]
  have z1 : ((List.map Dv.int (xs.take i)).length + 1 ≤ sizeLine) := by rw [List.length_map, List.length_take, sizeLine_eq]; omega
  split
  · refine ⟨a, c, B, rfl, hH, fun r T ht h1 h2 => ?_⟩
    simp only [dSeq, dAsg, dRet, dRetN, dDrop, dRaise, dBreak, dCont, dPar, dAug, dFor, dNext, dSetF, dAugF, dRaiseF, dIfS, dTest, dOp, dVar, dC, dCB, dCons, dNil, dCall, dAndV, dOrV, dNotV, dAndT, dOrT, dNotT, dIf, dTup, dLst, dLstV, dSl, dSlV, rdSlV, oSome, oNone, dNeg, gN, gT, gConsD, gNilD, gSubD, gFldD, dChain, dLc, dBM, isLst, iSeqD, iR1, iR2, iR3, dYes, rdAddV, rdMulV, rdSub, rdDiv, rdMod, rdPow, rdIAdd, rdCmp, rdIsN, isn_non, isn_bl, isn_int, isn_str, isn_ref, isn_tup, isn_rol, isn_obj, rdEqG, rdIx_tup, rdIx_rol, rdIx_put, rdSet, rdLen_tup, rdLen_rol, rdLen_str, rdLen_put, rdInt1, rdInt, rdInt2, rdAppend, rdExt, rdPopAt, rdMaxL, rdMinL, rdListV, rdIsB, isBlV, rdStrI, rdIntS, dFrz, dFld, insOf_put, dMeth, lstOf_rol, lstOf_put, seqOf_tup, seqOf_rol, seqOf_put, frz_tup, frz_rol, frz_int, frz_bl, frz_non, frz_str, frz_obj, startN, wipeD, List.map_cons, List.map_nil, List.length_cons, List.length_nil, Nat.zero_add, Nat.sub_self, Nat.reduceAdd, Nat.reduceSub, List.replicate_succ, List.replicate_zero, List.cons_append, List.nil_append, List.append_nil, List.getElem?_cons_zero, List.getElem?_cons_succ, List.set_cons_zero, List.set_cons_succ, Option.some.injEq, exists_eq_left', DEnds.xd, atI_0, atI_1, atI_2, atI_3, atI_4, atI_5, atI_6, atI_7, ixN_50, ixN_51, ixN_52, ixN_53, ixN_54, ixN_30, ixN_31, ixN_32, put_same, put_put, true_and, and_true, decide_true, decide_false, Bool.not_true, Bool.not_false, Bool.false_eq_true, if_true, if_false, decide_eq_true_eq, Bool.not_eq_true', decide_eq_false_iff_not, mem_one, ex_one, and_self]
    refine ⟨slK, z1, ?_, ?_⟩
    · simp only [List.length_append, List.length_map, List.length_take, List.length_drop, List.length_cons, List.length_nil]
      rw [sizeLine_eq]; omega
    · rw [show (List.map Dv.int (xs.take i) ++ [Dv.int r] ++ List.map Dv.int (xs.drop (i + 1))) = List.map Dv.int (xs.take i ++ [r] ++ xs.drop (i + 1)) by simp]
      exact h _ _ ht ((hx.take.app (.one h1 h2)).app hx.drop) (by simp; omega)
  split
  · refine ⟨a, c, B, rfl, hH, fun r T ht h1 h2 => ?_⟩
    simp only [dSeq, dAsg, dRet, dRetN, dDrop, dRaise, dBreak, dCont, dPar, dAug, dFor, dNext, dSetF, dAugF, dRaiseF, dIfS, dTest, dOp, dVar, dC, dCB, dCons, dNil, dCall, dAndV, dOrV, dNotV, dAndT, dOrT, dNotT, dIf, dTup, dLst, dLstV, dSl, dSlV, rdSlV, oSome, oNone, dNeg, gN, gT, gConsD, gNilD, gSubD, gFldD, dChain, dLc, dBM, isLst, iSeqD, iR1, iR2, iR3, dYes, rdAddV, rdMulV, rdSub, rdDiv, rdMod, rdPow, rdIAdd, rdCmp, rdIsN, isn_non, isn_bl, isn_int, isn_str, isn_ref, isn_tup, isn_rol, isn_obj, rdEqG, rdIx_tup, rdIx_rol, rdIx_put, rdSet, rdLen_tup, rdLen_rol, rdLen_str, rdLen_put, rdInt1, rdInt, rdInt2, rdAppend, rdExt, rdPopAt, rdMaxL, rdMinL, rdListV, rdIsB, isBlV, rdStrI, rdIntS, dFrz, dFld, insOf_put, dMeth, lstOf_rol, lstOf_put, seqOf_tup, seqOf_rol, seqOf_put, frz_tup, frz_rol, frz_int, frz_bl, frz_non, frz_str, frz_obj, startN, wipeD, List.map_cons, List.map_nil, List.length_cons, List.length_nil, Nat.zero_add, Nat.sub_self, Nat.reduceAdd, Nat.reduceSub, List.replicate_succ, List.replicate_zero, List.cons_append, List.nil_append, List.append_nil, List.getElem?_cons_zero, List.getElem?_cons_succ, List.set_cons_zero, List.set_cons_succ, Option.some.injEq, exists_eq_left', DEnds.xd, atI_0, atI_1, atI_2, atI_3, atI_4, atI_5, atI_6, atI_7, ixN_50, ixN_51, ixN_52, ixN_53, ixN_54, ixN_30, ixN_31, ixN_32, put_same, put_put, true_and, and_true, decide_true, decide_false, Bool.not_true, Bool.not_false, Bool.false_eq_true, if_true, if_false, decide_eq_true_eq, Bool.not_eq_true', decide_eq_false_iff_not, mem_one, ex_one, and_self]
    refine ⟨slK, z1, ?_, ?_⟩
    · simp only [List.length_append, List.length_map, List.length_take, List.length_drop, List.length_cons, List.length_nil]
      rw [sizeLine_eq]; omega
    · rw [show (List.map Dv.int (xs.take i) ++ [Dv.int r] ++ List.map Dv.int (xs.drop i)) = List.map Dv.int (xs.take i ++ [r] ++ xs.drop i) by simp]
      exact h _ _ ht ((hx.take.app (.one h1 h2)).app hx.drop) (by simp; omega)
  split
  · refine ⟨?_, ?_⟩
    · simp only [List.length_map, List.length_take, List.length_drop]
      rw [sizeLine_eq]; omega
    · rw [← List.map_append]
      exact h _ _ hH (hx.take.app hx.drop) (by simp; omega)
  split
  · exact h _ _ hH hx.take (by simp; omega)
  · refine ⟨a, c, B, 4, rfl, hH, by decide, by decide, fun ns T ht hn hn2 => ?_⟩
    simp only [dSeq, dAsg, dRet, dRetN, dDrop, dRaise, dBreak, dCont, dPar, dAug, dFor, dNext, dSetF, dAugF, dRaiseF, dIfS, dTest, dOp, dVar, dC, dCB, dCons, dNil, dCall, dAndV, dOrV, dNotV, dAndT, dOrT, dNotT, dIf, dTup, dLst, dLstV, dSl, dSlV, rdSlV, oSome, oNone, dNeg, gN, gT, gConsD, gNilD, gSubD, gFldD, dChain, dLc, dBM, isLst, iSeqD, iR1, iR2, iR3, dYes, rdAddV, rdMulV, rdSub, rdDiv, rdMod, rdPow, rdIAdd, rdCmp, rdIsN, isn_non, isn_bl, isn_int, isn_str, isn_ref, isn_tup, isn_rol, isn_obj, rdEqG, rdIx_tup, rdIx_rol, rdIx_put, rdSet, rdLen_tup, rdLen_rol, rdLen_str, rdLen_put, rdInt1, rdInt, rdInt2, rdAppend, rdExt, rdPopAt, rdMaxL, rdMinL, rdListV, rdIsB, isBlV, rdStrI, rdIntS, dFrz, dFld, insOf_put, dMeth, lstOf_rol, lstOf_put, seqOf_tup, seqOf_rol, seqOf_put, frz_tup, frz_rol, frz_int, frz_bl, frz_non, frz_str, frz_obj, startN, wipeD, List.map_cons, List.map_nil, List.length_cons, List.length_nil, Nat.zero_add, Nat.sub_self, Nat.reduceAdd, Nat.reduceSub, List.replicate_succ, List.replicate_zero, List.cons_append, List.nil_append, List.append_nil, List.getElem?_cons_zero, List.getElem?_cons_succ, List.set_cons_zero, List.set_cons_succ, Option.some.injEq, exists_eq_left', DEnds.xd, atI_0, atI_1, atI_2, atI_3, atI_4, atI_5, atI_6, atI_7, ixN_50, ixN_51, ixN_52, ixN_53, ixN_54, ixN_30, ixN_31, ixN_32, put_same, put_put, true_and, and_true, decide_true, decide_false, Bool.not_true, Bool.not_false, Bool.false_eq_true, if_true, if_false, decide_eq_true_eq, Bool.not_eq_true', decide_eq_false_iff_not, mem_one, ex_one, and_self]
    refine ⟨by simp only [List.length_map]; rw [sizeLine_eq]; omega, ?_⟩
    rw [← List.map_append]
    exact h _ _ ht (hx.app hn) (by simp; omega)
def runsOk (rs : Runs) : Prop := ∀ p ∈ rs, 0 ≤ p.1 ∧ p.1 < 256 ∧ 0 ≤ p.2 ∧ p.2 < 18446744073709551616
def tot (rs : Runs) : Int := (rs.map (·.2)).sum
def sp__law_runs (A : Ad) : SpD := fun ds S Q _ => ∃ a c B, ds = [.ref a] ∧ IsH a c B S ∧ ∀ rs S', IsH a c B S' → runsOk rs → rs.length ≤ 12 → tot rs ≤ 20000 → (∀ p ∈ rs, 1 ≤ p.2) → Q (.rol (rs.map prD)) S'
theorem len__law_runs (A : Ad) : ∀ ds S Q X, sp__law_runs A ds S Q X → ds.length = 1 := by rintro _ _ _ _ ⟨_, _, _, rfl, _⟩; rfl
def r__law_runs (A : Ad) : DS := (dSeq (dAsg (dCall (sp__law_draw A) (dCons (dVar 0) (dCons (dC (.int 12)) dNil))) (gN 1))
    (dSeq (dAsg (dLst dNil) (gN 2))
    (dSeq (dFor (iR1 (dCons (dCall (sp__law_draw A) (dCons (dVar 0) (dCons (dC (.int 13)) dNil))) dNil)) (gN 3) (dSeq (dAsg (dOp rdAddV (dC (.int 1)) (dCall (sp__law_draw A) (dCons (dVar 0) (dCons (dOp rdIx (dLstV (dCons (dC (.int 1)) (dCons (dC (.int 4)) (dCons (dC (.int 300)) dNil)))) (dCall (sp__law_draw A) (dCons (dVar 0) (dCons (dC (.int 3)) dNil)))) dNil)))) (gN 4))
    (dDrop (dBM rdAppend (dVar 2) (dCons (dTup (dCons (dCall (sp__law_byte A) (dCons (dVar 0) dNil)) (dCons (dVar 4) dNil))) dNil)))))
    (dSeq (dIfS (dAndT (dTest (dOp rdEq (dVar 1) (dC (.int 0)))) (dTest (dOp rdGt (dCB rdLen (dCons (dVar 2) dNil)) (dC (.int 0))))) (dAsg (dTup (dCons (dOp rdIx (dOp rdIx (dVar 2) (dC (.int 0))) (dC (.int 0))) (dCons (dOp rdAddV (dC (.int 15000)) (dOp rdIx (dOp rdIx (dVar 2) (dC (.int 0))) (dC (.int 1)))) dNil))) (gSubD rdSet (dVar 2) (dC (.int 0)))) dNext)
    (dRet (dFrz (dVar 2)))))))
theorem tot_app (a b : Runs) : tot (a ++ b) = tot a + tot b := by unfold tot; rw [List.map_append, List.sum_append]
theorem rd__law_runs (A : Ad) : Rd (r__law_runs A) 5 (sp__law_runs A) := by
  rintro ds S Q X ⟨a, c, B, rfl, hH, h⟩
  unfold r__law_runs
  simp only [dIfS, dTest, dOp, dVar, dC, dCB, dCons, dNil, dCall, dAndV, dOrV, dNotV, dAndT, dOrT, dNotT, dIf, dTup, dLst, dLstV, dSl, dSlV, rdSlV, oSome, oNone, dNeg, gN, gT, gConsD, gNilD, gSubD, gFldD, dChain, dLc, dBM, isLst, iSeqD, iR1, iR2, iR3, dYes, rdAddV, rdMulV, rdSub, rdDiv, rdMod, rdPow, rdIAdd, rdCmp, rdIsN, isn_non, isn_bl, isn_int, isn_str, isn_ref, isn_tup, isn_rol, isn_obj, rdEqG, rdIx_tup, rdIx_rol, rdIx_put, rdSet, rdLen_tup, rdLen_rol, rdLen_str, rdLen_put, rdInt1, rdInt, rdInt2, rdAppend, rdExt, rdPopAt, rdMaxL, rdMinL, rdListV, rdIsB, isBlV, rdStrI, rdIntS, dFrz, dFld, insOf_put, dMeth, lstOf_rol, lstOf_put, seqOf_tup, seqOf_rol, seqOf_put, frz_tup, frz_rol, frz_int, frz_bl, frz_non, frz_str, frz_obj, startN, wipeD, List.map_cons, List.map_nil, List.length_cons, List.length_nil, Nat.zero_add, Nat.sub_self, Nat.reduceAdd, Nat.reduceSub, List.replicate_succ, List.replicate_zero, List.cons_append, List.nil_append, List.append_nil, List.getElem?_cons_zero, List.getElem?_cons_succ, List.set_cons_zero, List.set_cons_succ, Option.some.injEq, exists_eq_left', DEnds.xd, atI_0, atI_1, atI_2, atI_3, atI_4, atI_5, atI_6, atI_7, ixN_50, ixN_51, ixN_52, ixN_53, ixN_54, ixN_30, ixN_31, ixN_32, put_same, put_put, true_and, and_true, decide_true, decide_false, Bool.not_true, Bool.not_false, Bool.false_eq_true, if_true, if_false, decide_eq_true_eq, Bool.not_eq_true', decide_eq_false_iff_not, mem_one, ex_one, and_self]
  refine cut_seq (fun ρ T => IsH a c B T ∧ ∃ g : Int, ρ = [some (.ref a), some (.int g), none, none, none]) (fun N hN => ?_) (fun ρ T hM => ?_)
  · simp only [dSeq, dAsg, dRet, dRetN, dDrop, dRaise, dBreak, dCont, dPar, dAug, dFor, dNext, dSetF, dAugF, dRaiseF, dIfS, dTest, dOp, dVar, dC, dCB, dCons, dNil, dCall, dAndV, dOrV, dNotV, dAndT, dOrT, dNotT, dIf, dTup, dLst, dLstV, dSl, dSlV, rdSlV, oSome, oNone, dNeg, gN, gT, gConsD, gNilD, gSubD, gFldD, dChain, dLc, dBM, isLst, iSeqD, iR1, iR2, iR3, dYes, rdAddV, rdMulV, rdSub, rdDiv, rdMod, rdPow, rdIAdd, rdCmp, rdIsN, isn_non, isn_bl, isn_int, isn_str, isn_ref, isn_tup, isn_rol, isn_obj, rdEqG, rdIx_tup, rdIx_rol, rdIx_put, rdSet, rdLen_tup, rdLen_rol, rdLen_str, rdLen_put, rdInt1, rdInt, rdInt2, rdAppend, rdExt, rdPopAt, rdMaxL, rdMinL, rdListV, rdIsB, isBlV, rdStrI, rdIntS, dFrz, dFld, insOf_put, dMeth, lstOf_rol, lstOf_put, seqOf_tup, seqOf_rol, seqOf_put, frz_tup, frz_rol, frz_int, frz_bl, frz_non, frz_str, frz_obj, startN, wipeD, List.map_cons, List.map_nil, List.length_cons, List.length_nil, Nat.zero_add, Nat.sub_self, Nat.reduceAdd, Nat.reduceSub, List.replicate_succ, List.replicate_zero, List.cons_append, List.nil_append, List.append_nil, List.getElem?_cons_zero, List.getElem?_cons_succ, List.set_cons_zero, List.set_cons_succ, Option.some.injEq, exists_eq_left', DEnds.xd, atI_0, atI_1, atI_2, atI_3, atI_4, atI_5, atI_6, atI_7, ixN_50, ixN_51, ixN_52, ixN_53, ixN_54, ixN_30, ixN_31, ixN_32, put_same, put_put, true_and, and_true, decide_true, decide_false, Bool.not_true, Bool.not_false, Bool.false_eq_true, if_true, if_false, decide_eq_true_eq, Bool.not_eq_true', decide_eq_false_iff_not, mem_one, ex_one, and_self]
    exact ask hH fun r T ht h1 h2 => hN _ _ ⟨ht, r, rfl⟩
  obtain ⟨hH, g, rfl⟩ := hM
  refine cut_seq (fun ρ T => ∃ p, p ≠ a ∧ p ≠ c ∧ B p = none ∧ IsH a c (put B p (.lst [])) T ∧ ρ = [some (.ref a), some (.int g), some (.ref p), none, none]) (fun N hN => ?_) (fun ρ T hM => ?_)
  · simp only [dSeq, dAsg, dRet, dRetN, dDrop, dRaise, dBreak, dCont, dPar, dAug, dFor, dNext, dSetF, dAugF, dRaiseF, dIfS, dTest, dOp, dVar, dC, dCB, dCons, dNil, dCall, dAndV, dOrV, dNotV, dAndT, dOrT, dNotT, dIf, dTup, dLst, dLstV, dSl, dSlV, rdSlV, oSome, oNone, dNeg, gN, gT, gConsD, gNilD, gSubD, gFldD, dChain, dLc, dBM, isLst, iSeqD, iR1, iR2, iR3, dYes, rdAddV, rdMulV, rdSub, rdDiv, rdMod, rdPow, rdIAdd, rdCmp, rdIsN, isn_non, isn_bl, isn_int, isn_str, isn_ref, isn_tup, isn_rol, isn_obj, rdEqG, rdIx_tup, rdIx_rol, rdIx_put, rdSet, rdLen_tup, rdLen_rol, rdLen_str, rdLen_put, rdInt1, rdInt, rdInt2, rdAppend, rdExt, rdPopAt, rdMaxL, rdMinL, rdListV, rdIsB, isBlV, rdStrI, rdIntS, dFrz, dFld, insOf_put, dMeth, lstOf_rol, lstOf_put, seqOf_tup, seqOf_rol, seqOf_put, frz_tup, frz_rol, frz_int, frz_bl, frz_non, frz_str, frz_obj, startN, wipeD, List.map_cons, List.map_nil, List.length_cons, List.length_nil, Nat.zero_add, Nat.sub_self, Nat.reduceAdd, Nat.reduceSub, List.replicate_succ, List.replicate_zero, List.cons_append, List.nil_append, List.append_nil, List.getElem?_cons_zero, List.getElem?_cons_succ, List.set_cons_zero, List.set_cons_succ, Option.some.injEq, exists_eq_left', DEnds.xd, atI_0, atI_1, atI_2, atI_3, atI_4, atI_5, atI_6, atI_7, ixN_50, ixN_51, ixN_52, ixN_53, ixN_54, ixN_30, ixN_31, ixN_32, put_same, put_put, true_and, and_true, decide_true, decide_false, Bool.not_true, Bool.not_false, Bool.false_eq_true, if_true, if_false, decide_eq_true_eq, Bool.not_eq_true', decide_eq_false_iff_not, mem_one, ex_one, and_self]
    refine ⟨slK, fun p hp => ?_⟩
    obtain ⟨h1, h2, h3⟩ := hH.free hp
    exact hN _ _ ⟨p, h1, h2, h3, hH.new hp, rfl⟩
  obtain ⟨p, pa, pc, hB, hH, rfl⟩ := hM
  refine cut_seq (fun ρ T => ∃ rs : Runs, IsH a c (put B p (.lst (rs.map prD))) T ∧ runsOk rs ∧ rs.length ≤ 12 ∧ (∀ q ∈ rs, 1 ≤ q.2 ∧ q.2 ≤ 300) ∧ tot rs ≤ 300 * rs.length ∧ ∃ y z, ρ = [some (.ref a), some (.int g), some (.ref p), y, z]) (fun N hN => ?_) (fun ρ T hM => ?_)
  · simp only [dSeq, dAsg, dRet, dRetN, dDrop, dRaise, dBreak, dCont, dPar, dAug, dFor, dNext, dSetF, dAugF, dRaiseF, dIfS, dTest, dOp, dVar, dC, dCB, dCons, dNil, dCall, dAndV, dOrV, dNotV, dAndT, dOrT, dNotT, dIf, dTup, dLst, dLstV, dSl, dSlV, rdSlV, oSome, oNone, dNeg, gN, gT, gConsD, gNilD, gSubD, gFldD, dChain, dLc, dBM, isLst, iSeqD, iR1, iR2, iR3, dYes, rdAddV, rdMulV, rdSub, rdDiv, rdMod, rdPow, rdIAdd, rdCmp, rdIsN, isn_non, isn_bl, isn_int, isn_str, isn_ref, isn_tup, isn_rol, isn_obj, rdEqG, rdIx_tup, rdIx_rol, rdIx_put, rdSet, rdLen_tup, rdLen_rol, rdLen_str, rdLen_put, rdInt1, rdInt, rdInt2, rdAppend, rdExt, rdPopAt, rdMaxL, rdMinL, rdListV, rdIsB, isBlV, rdStrI, rdIntS, dFrz, dFld, insOf_put, dMeth, lstOf_rol, lstOf_put, seqOf_tup, seqOf_rol, seqOf_put, frz_tup, frz_rol, frz_int, frz_bl, frz_non, frz_str, frz_obj, startN, wipeD, List.map_cons, List.map_nil, List.length_cons, List.length_nil, Nat.zero_add, Nat.sub_self, Nat.reduceAdd, Nat.reduceSub, List.replicate_succ, List.replicate_zero, List.cons_append, List.nil_append, List.append_nil, List.getElem?_cons_zero, List.getElem?_cons_succ, List.set_cons_zero, List.set_cons_succ, Option.some.injEq, exists_eq_left', DEnds.xd, atI_0, atI_1, atI_2, atI_3, atI_4, atI_5, atI_6, atI_7, ixN_50, ixN_51, ixN_52, ixN_53, ixN_54, ixN_30, ixN_31, ixN_32, put_same, put_put, true_and, and_true, decide_true, decide_false, Bool.not_true, Bool.not_false, Bool.false_eq_true, if_true, if_false, decide_eq_true_eq, Bool.not_eq_true', decide_eq_false_iff_not, mem_one, ex_one, and_self]
    refine ask hH fun r T ht h1 h2 => ?_
    simp only [dSeq, dAsg, dRet, dRetN, dDrop, dRaise, dBreak, dCont, dPar, dAug, dFor, dNext, dSetF, dAugF, dRaiseF, dIfS, dTest, dOp, dVar, dC, dCB, dCons, dNil, dCall, dAndV, dOrV, dNotV, dAndT, dOrT, dNotT, dIf, dTup, dLst, dLstV, dSl, dSlV, rdSlV, oSome, oNone, dNeg, gN, gT, gConsD, gNilD, gSubD, gFldD, dChain, dLc, dBM, isLst, iSeqD, iR1, iR2, iR3, dYes, rdAddV, rdMulV, rdSub, rdDiv, rdMod, rdPow, rdIAdd, rdCmp, rdIsN, isn_non, isn_bl, isn_int, isn_str, isn_ref, isn_tup, isn_rol, isn_obj, rdEqG, rdIx_tup, rdIx_rol, rdIx_put, rdSet, rdLen_tup, rdLen_rol, rdLen_str, rdLen_put, rdInt1, rdInt, rdInt2, rdAppend, rdExt, rdPopAt, rdMaxL, rdMinL, rdListV, rdIsB, isBlV, rdStrI, rdIntS, dFrz, dFld, insOf_put, dMeth, lstOf_rol, lstOf_put, seqOf_tup, seqOf_rol, seqOf_put, frz_tup, frz_rol, frz_int, frz_bl, frz_non, frz_str, frz_obj, startN, wipeD, List.map_cons, List.map_nil, List.length_cons, List.length_nil, Nat.zero_add, Nat.sub_self, Nat.reduceAdd, Nat.reduceSub, List.replicate_succ, List.replicate_zero, List.cons_append, List.nil_append, List.append_nil, List.getElem?_cons_zero, List.getElem?_cons_succ, List.set_cons_zero, List.set_cons_succ, Option.some.injEq, exists_eq_left', DEnds.xd, atI_0, atI_1, atI_2, atI_3, atI_4, atI_5, atI_6, atI_7, ixN_50, ixN_51, ixN_52, ixN_53, ixN_54, ixN_30, ixN_31, ixN_32, put_same, put_put, true_and, and_true, decide_true, decide_false, Bool.not_true, Bool.not_false, Bool.false_eq_true, if_true, if_false, decide_eq_true_eq, Bool.not_eq_true', decide_eq_false_iff_not, mem_one, ex_one, and_self]
    refine for_go (fun i ρ T => ∃ rs : Runs, IsH a c (put B p (.lst (rs.map prD))) T ∧ runsOk rs ∧ rs.length ≤ i ∧ (∀ q ∈ rs, 1 ≤ q.2 ∧ q.2 ≤ 300) ∧ tot rs ≤ 300 * rs.length ∧ ∃ y z, ρ = [some (.ref a), some (.int g), some (.ref p), y, z]) ⟨[], ht, fun _ hp => (by cases hp), Nat.le_refl _, fun _ hp => (by cases hp), by decide, _, _, rfl⟩ (fun _ _ _ _ _ => trivial) (fun i x ρ T hx hw => ?_) fun ρ T hw => ?_
    · obtain ⟨rs, hT, r1, r2, r3, r4, y, z, rfl⟩ := hw
      have hi := (rangeL_mem hx).1
      simp only [dSeq, dAsg, dRet, dRetN, dDrop, dRaise, dBreak, dCont, dPar, dAug, dFor, dNext, dSetF, dAugF, dRaiseF, dIfS, dTest, dOp, dVar, dC, dCB, dCons, dNil, dCall, dAndV, dOrV, dNotV, dAndT, dOrT, dNotT, dIf, dTup, dLst, dLstV, dSl, dSlV, rdSlV, oSome, oNone, dNeg, gN, gT, gConsD, gNilD, gSubD, gFldD, dChain, dLc, dBM, isLst, iSeqD, iR1, iR2, iR3, dYes, rdAddV, rdMulV, rdSub, rdDiv, rdMod, rdPow, rdIAdd, rdCmp, rdIsN, isn_non, isn_bl, isn_int, isn_str, isn_ref, isn_tup, isn_rol, isn_obj, rdEqG, rdIx_tup, rdIx_rol, rdIx_put, rdSet, rdLen_tup, rdLen_rol, rdLen_str, rdLen_put, rdInt1, rdInt, rdInt2, rdAppend, rdExt, rdPopAt, rdMaxL, rdMinL, rdListV, rdIsB, isBlV, rdStrI, rdIntS, dFrz, dFld, insOf_put, dMeth, lstOf_rol, lstOf_put, seqOf_tup, seqOf_rol, seqOf_put, frz_tup, frz_rol, frz_int, frz_bl, frz_non, frz_str, frz_obj, startN, wipeD, List.map_cons, List.map_nil, List.length_cons, List.length_nil, Nat.zero_add, Nat.sub_self, Nat.reduceAdd, Nat.reduceSub, List.replicate_succ, List.replicate_zero, List.cons_append, List.nil_append, List.append_nil, List.getElem?_cons_zero, List.getElem?_cons_succ, List.set_cons_zero, List.set_cons_succ, Option.some.injEq, exists_eq_left', DEnds.xd, atI_0, atI_1, atI_2, atI_3, atI_4, atI_5, atI_6, atI_7, ixN_50, ixN_51, ixN_52, ixN_53, ixN_54, ixN_30, ixN_31, ixN_32, put_same, put_put, true_and, and_true, decide_true, decide_false, Bool.not_true, Bool.not_false, Bool.false_eq_true, if_true, if_false, decide_eq_true_eq, Bool.not_eq_true', decide_eq_false_iff_not, mem_one, ex_one, and_self]
      refine ⟨slK, ask_ix (xs := [.int 1, .int 4, .int 300]) hT (fun k d T2 ht2 hd => ?_) (by decide) (by decide)⟩
      obtain ⟨n, rfl, h3, h4⟩ : ∃ n : Int, d = .int n ∧ 1 ≤ n ∧ n ≤ 300 := by
        have hr := (List.getElem?_eq_some_iff.mp hd).1
        simp at hr
        have : k = 0 ∨ k = 1 ∨ k = 2 := by omega
        rcases this with rfl | rfl | rfl <;> (cases hd; exact ⟨_, rfl, by decide, by decide⟩)
      refine ask ht2 (fun m T3 ht3 h5 h6 => ?_) (by omega) (by omega)
      simp only [dSeq, dAsg, dRet, dRetN, dDrop, dRaise, dBreak, dCont, dPar, dAug, dFor, dNext, dSetF, dAugF, dRaiseF, dIfS, dTest, dOp, dVar, dC, dCB, dCons, dNil, dCall, dAndV, dOrV, dNotV, dAndT, dOrT, dNotT, dIf, dTup, dLst, dLstV, dSl, dSlV, rdSlV, oSome, oNone, dNeg, gN, gT, gConsD, gNilD, gSubD, gFldD, dChain, dLc, dBM, isLst, iSeqD, iR1, iR2, iR3, dYes, rdAddV, rdMulV, rdSub, rdDiv, rdMod, rdPow, rdIAdd, rdCmp, rdIsN, isn_non, isn_bl, isn_int, isn_str, isn_ref, isn_tup, isn_rol, isn_obj, rdEqG, rdIx_tup, rdIx_rol, rdIx_put, rdSet, rdLen_tup, rdLen_rol, rdLen_str, rdLen_put, rdInt1, rdInt, rdInt2, rdAppend, rdExt, rdPopAt, rdMaxL, rdMinL, rdListV, rdIsB, isBlV, rdStrI, rdIntS, dFrz, dFld, insOf_put, dMeth, lstOf_rol, lstOf_put, seqOf_tup, seqOf_rol, seqOf_put, frz_tup, frz_rol, frz_int, frz_bl, frz_non, frz_str, frz_obj, startN, wipeD, List.map_cons, List.map_nil, List.length_cons, List.length_nil, Nat.zero_add, Nat.sub_self, Nat.reduceAdd, Nat.reduceSub, List.replicate_succ, List.replicate_zero, List.cons_append, List.nil_append, List.append_nil, List.getElem?_cons_zero, List.getElem?_cons_succ, List.set_cons_zero, List.set_cons_succ, Option.some.injEq, exists_eq_left', DEnds.xd, atI_0, atI_1, atI_2, atI_3, atI_4, atI_5, atI_6, atI_7, ixN_50, ixN_51, ixN_52, ixN_53, ixN_54, ixN_30, ixN_31, ixN_32, put_same, put_put, true_and, and_true, decide_true, decide_false, Bool.not_true, Bool.not_false, Bool.false_eq_true, if_true, if_false, decide_eq_true_eq, Bool.not_eq_true', decide_eq_false_iff_not, mem_one, ex_one, and_self]
      have two : T3 p = some (.lst (rs.map prD)) := by rw [ht3.at_ pa pc, put_same]
      rw [two]
      refine ⟨trivial, a, c, _, rfl, ht3, fun b T4 ht4 h7 h8 => ?_⟩
      have two2 : T4 p = some (.lst (rs.map prD)) := by rw [ht4.at_ pa pc, put_same]
      simp only [dSeq, dAsg, dRet, dRetN, dDrop, dRaise, dBreak, dCont, dPar, dAug, dFor, dNext, dSetF, dAugF, dRaiseF, dIfS, dTest, dOp, dVar, dC, dCB, dCons, dNil, dCall, dAndV, dOrV, dNotV, dAndT, dOrT, dNotT, dIf, dTup, dLst, dLstV, dSl, dSlV, rdSlV, oSome, oNone, dNeg, gN, gT, gConsD, gNilD, gSubD, gFldD, dChain, dLc, dBM, isLst, iSeqD, iR1, iR2, iR3, dYes, rdAddV, rdMulV, rdSub, rdDiv, rdMod, rdPow, rdIAdd, rdCmp, rdIsN, isn_non, isn_bl, isn_int, isn_str, isn_ref, isn_tup, isn_rol, isn_obj, rdEqG, rdIx_tup, rdIx_rol, rdIx_put, rdSet, rdLen_tup, rdLen_rol, rdLen_str, rdLen_put, rdInt1, rdInt, rdInt2, rdAppend, rdExt, rdPopAt, rdMaxL, rdMinL, rdListV, rdIsB, isBlV, rdStrI, rdIntS, dFrz, dFld, insOf_put, dMeth, lstOf_rol, lstOf_put, seqOf_tup, seqOf_rol, seqOf_put, frz_tup, frz_rol, frz_int, frz_bl, frz_non, frz_str, frz_obj, startN, wipeD, List.map_cons, List.map_nil, List.length_cons, List.length_nil, Nat.zero_add, Nat.sub_self, Nat.reduceAdd, Nat.reduceSub, List.replicate_succ, List.replicate_zero, List.cons_append, List.nil_append, List.append_nil, List.getElem?_cons_zero, List.getElem?_cons_succ, List.set_cons_zero, List.set_cons_succ, Option.some.injEq, exists_eq_left', DEnds.xd, atI_0, atI_1, atI_2, atI_3, atI_4, atI_5, atI_6, atI_7, ixN_50, ixN_51, ixN_52, ixN_53, ixN_54, ixN_30, ixN_31, ixN_32, put_same, put_put, true_and, and_true, decide_true, decide_false, Bool.not_true, Bool.not_false, Bool.false_eq_true, if_true, if_false, decide_eq_true_eq, Bool.not_eq_true', decide_eq_false_iff_not, mem_one, ex_one, and_self, two2]
      refine ⟨sl2, by rw [List.length_map, sizeLine_eq]; omega, rs ++ [(b, 1 + m)], ?_, ?_, by simp; omega, ?_, ?_, _, _, rfl⟩
      · have := ht4.wr (m := .lst ((rs ++ [(b, 1 + m)]).map prD)) pa pc
        rw [put_put] at this
        simpa [prD] using this
      · intro q hq
        rcases List.mem_append.mp hq with hq | hq
        · exact r1 q hq
        · rw [List.mem_singleton.mp hq]; dsimp only; omega
      · intro q hq
        rcases List.mem_append.mp hq with hq | hq
        · exact r3 q hq
        · rw [List.mem_singleton.mp hq]; dsimp only; omega
      · rw [tot_app]
        have : tot [(b, 1 + m)] = 1 + m := by simp [tot]
        rw [this]
        simp
        omega
    · obtain ⟨rs, hT, r1, r2, r3, r4, y, z, rfl⟩ := hw
      rw [rangeL_len] at r2
      exact hN _ _ ⟨rs, hT, r1, by omega, r3, r4, y, z, rfl⟩
  obtain ⟨rs, hT, r1, r2, r3, r4, y, z, rfl⟩ := hM
  have fin : ∀ (rs' : Runs) (T : Sto), IsH a c (put B p (.lst (rs'.map prD))) T → runsOk rs' → rs'.length ≤ 12 → (∀ q ∈ rs', 1 ≤ q.2) → tot rs' ≤ 20000 → frzD (.ref p) T Q := by
    intro rs' T hT g1 g2 g3 g4
    unfold frzD
    dsimp only
    rw [hT.at_ pa pc, put_same]
    exact h rs' _ (hT.rmNew hB pa pc) g1 g2 g4 g3
  have two : T p = some (.lst (rs.map prD)) := by rw [hT.at_ pa pc, put_same]
  simp only [dSeq, dAsg, dRet, dRetN, dDrop, dRaise, dBreak, dCont, dPar, dAug, dFor, dNext, dSetF, dAugF, dRaiseF, dIfS, dTest, dOp, dVar, dC, dCB, dCons, dNil, dCall, dAndV, dOrV, dNotV, dAndT, dOrT, dNotT, dIf, dTup, dLst, dLstV, dSl, dSlV, rdSlV, oSome, oNone, dNeg, gN, gT, gConsD, gNilD, gSubD, gFldD, dChain, dLc, dBM, isLst, iSeqD, iR1, iR2, iR3, dYes, rdAddV, rdMulV, rdSub, rdDiv, rdMod, rdPow, rdIAdd, rdCmp, rdIsN, isn_non, isn_bl, isn_int, isn_str, isn_ref, isn_tup, isn_rol, isn_obj, rdEqG, rdIx_tup, rdIx_rol, rdIx_put, rdSet, rdLen_tup, rdLen_rol, rdLen_str, rdLen_put, rdInt1, rdInt, rdInt2, rdAppend, rdExt, rdPopAt, rdMaxL, rdMinL, rdListV, rdIsB, isBlV, rdStrI, rdIntS, dFrz, dFld, insOf_put, dMeth, lstOf_rol, lstOf_put, seqOf_tup, seqOf_rol, seqOf_put, frz_tup, frz_rol, frz_int, frz_bl, frz_non, frz_str, frz_obj, startN, wipeD, List.map_cons, List.map_nil, List.length_cons, List.length_nil, Nat.zero_add, Nat.sub_self, Nat.reduceAdd, Nat.reduceSub, List.replicate_succ, List.replicate_zero, List.cons_append, List.nil_append, List.append_nil, List.getElem?_cons_zero, List.getElem?_cons_succ, List.set_cons_zero, List.set_cons_succ, Option.some.injEq, exists_eq_left', DEnds.xd, atI_0, atI_1, atI_2, atI_3, atI_4, atI_5, atI_6, atI_7, ixN_50, ixN_51, ixN_52, ixN_53, ixN_54, ixN_30, ixN_31, ixN_32, put_same, put_put, true_and, and_true, decide_true, decide_false, Bool.not_true, Bool.not_false, Bool.false_eq_true, if_true, if_false, decide_eq_true_eq, Bool.not_eq_true', decide_eq_false_iff_not, mem_one, ex_one, and_self, rdLen_ref two]
  have easy : frzD (.ref p) T Q := fin rs T hT r1 r2 (fun q hq => (r3 q hq).1) (by omega)
  cases rs with
  | nil =>
    split
    · rw [if_neg (by simp)]; exact easy
    · exact easy
  | cons q rs =>
    split
    · rw [if_pos (by simp)]
      refine ix_ref two (by rw [atI_0]; rfl) ?_
      unfold prD
      simp only [dSeq, dAsg, dRet, dRetN, dDrop, dRaise, dBreak, dCont, dPar, dAug, dFor, dNext, dSetF, dAugF, dRaiseF, dIfS, dTest, dOp, dVar, dC, dCB, dCons, dNil, dCall, dAndV, dOrV, dNotV, dAndT, dOrT, dNotT, dIf, dTup, dLst, dLstV, dSl, dSlV, rdSlV, oSome, oNone, dNeg, gN, gT, gConsD, gNilD, gSubD, gFldD, dChain, dLc, dBM, isLst, iSeqD, iR1, iR2, iR3, dYes, rdAddV, rdMulV, rdSub, rdDiv, rdMod, rdPow, rdIAdd, rdCmp, rdIsN, isn_non, isn_bl, isn_int, isn_str, isn_ref, isn_tup, isn_rol, isn_obj, rdEqG, rdIx_tup, rdIx_rol, rdIx_put, rdSet, rdLen_tup, rdLen_rol, rdLen_str, rdLen_put, rdInt1, rdInt, rdInt2, rdAppend, rdExt, rdPopAt, rdMaxL, rdMinL, rdListV, rdIsB, isBlV, rdStrI, rdIntS, dFrz, dFld, insOf_put, dMeth, lstOf_rol, lstOf_put, seqOf_tup, seqOf_rol, seqOf_put, frz_tup, frz_rol, frz_int, frz_bl, frz_non, frz_str, frz_obj, startN, wipeD, List.map_cons, List.map_nil, List.length_cons, List.length_nil, Nat.zero_add, Nat.sub_self, Nat.reduceAdd, Nat.reduceSub, List.replicate_succ, List.replicate_zero, List.cons_append, List.nil_append, List.append_nil, List.getElem?_cons_zero, List.getElem?_cons_succ, List.set_cons_zero, List.set_cons_succ, Option.some.injEq, exists_eq_left', DEnds.xd, atI_0, atI_1, atI_2, atI_3, atI_4, atI_5, atI_6, atI_7, ixN_50, ixN_51, ixN_52, ixN_53, ixN_54, ixN_30, ixN_31, ixN_32, put_same, put_put, true_and, and_true, decide_true, decide_false, Bool.not_true, Bool.not_false, Bool.false_eq_true, if_true, if_false, decide_eq_true_eq, Bool.not_eq_true', decide_eq_false_iff_not, mem_one, ex_one, and_self]
      refine ix_ref two (by rw [atI_0]; rfl) ?_
      unfold prD
      simp only [dSeq, dAsg, dRet, dRetN, dDrop, dRaise, dBreak, dCont, dPar, dAug, dFor, dNext, dSetF, dAugF, dRaiseF, dIfS, dTest, dOp, dVar, dC, dCB, dCons, dNil, dCall, dAndV, dOrV, dNotV, dAndT, dOrT, dNotT, dIf, dTup, dLst, dLstV, dSl, dSlV, rdSlV, oSome, oNone, dNeg, gN, gT, gConsD, gNilD, gSubD, gFldD, dChain, dLc, dBM, isLst, iSeqD, iR1, iR2, iR3, dYes, rdAddV, rdMulV, rdSub, rdDiv, rdMod, rdPow, rdIAdd, rdCmp, rdIsN, isn_non, isn_bl, isn_int, isn_str, isn_ref, isn_tup, isn_rol, isn_obj, rdEqG, rdIx_tup, rdIx_rol, rdIx_put, rdSet, rdLen_tup, rdLen_rol, rdLen_str, rdLen_put, rdInt1, rdInt, rdInt2, rdAppend, rdExt, rdPopAt, rdMaxL, rdMinL, rdListV, rdIsB, isBlV, rdStrI, rdIntS, dFrz, dFld, insOf_put, dMeth, lstOf_rol, lstOf_put, seqOf_tup, seqOf_rol, seqOf_put, frz_tup, frz_rol, frz_int, frz_bl, frz_non, frz_str, frz_obj, startN, wipeD, List.map_cons, List.map_nil, List.length_cons, List.length_nil, Nat.zero_add, Nat.sub_self, Nat.reduceAdd, Nat.reduceSub, List.replicate_succ, List.replicate_zero, List.cons_append, List.nil_append, List.append_nil, List.getElem?_cons_zero, List.getElem?_cons_succ, List.set_cons_zero, List.set_cons_succ, Option.some.injEq, exists_eq_left', DEnds.xd, atI_0, atI_1, atI_2, atI_3, atI_4, atI_5, atI_6, atI_7, ixN_50, ixN_51, ixN_52, ixN_53, ixN_54, ixN_30, ixN_31, ixN_32, put_same, put_put, true_and, and_true, decide_true, decide_false, Bool.not_true, Bool.not_false, Bool.false_eq_true, if_true, if_false, decide_eq_true_eq, Bool.not_eq_true', decide_eq_false_iff_not, mem_one, ex_one, and_self, two]
      have q1 := r3 q (by simp)
      have q2 := r1 q (by simp)
      refine ⟨sl2, 0, ixN_lt (by omega) (by simp), ?_⟩
      refine fin ((q.1, 15000 + q.2) :: rs) _ ?_ ?_ r2 ?_ ?_
      · have := hT.wr (m := .lst (((q.1, 15000 + q.2) :: rs).map prD)) pa pc
        rw [put_put] at this
        exact this
      · intro s hs
        rcases List.mem_cons.mp hs with rfl | hs
        · dsimp only; omega
        · exact r1 s (by simp [hs])
      · intro s hs
        rcases List.mem_cons.mp hs with rfl | hs
        · dsimp only; omega
        · exact (r3 s (by simp [hs])).1
      · have e1 : tot ((q.1, 15000 + q.2) :: rs) = 15000 + tot (q :: rs) := by simp [tot]; omega
        rw [e1]
        omega
    · exact easy
end Lw

namespace Lw
open PySem PySem.Spec PyProof.Rows L2 VD
theorem tot_take {rs : Runs} (h : ∀ p ∈ rs, 0 ≤ p.2) (i : Nat) : tot (rs.take i) ≤ tot rs := by
  have e : tot rs = tot (rs.take i) + tot (rs.drop i) := by rw [← tot_app, List.take_append_drop]
  have g : ∀ xs : Runs, (∀ p ∈ xs, 0 ≤ p.2) → 0 ≤ tot xs := by
    intro xs
    induction xs with
    | nil => intro _; decide
    | cons q xs ih =>
      intro hq
      have h1 := hq q (by simp)
      have h2 := ih fun p hp => hq p (by simp [hp])
      have : tot (q :: xs) = q.2 + tot xs := by simp [tot]
      omega
  have := g (rs.drop i) fun p hp => h p (List.mem_of_mem_drop hp)
  omega
theorem expand_tot : ∀ rs : Runs, (∀ p ∈ rs, 0 ≤ p.2) → ((expand rs).length : Int) = tot rs
  | [], _ => rfl
  | q :: rs, h => by
    have ih := expand_tot rs fun p hp => h p (by simp [hp])
    have h1 := h q (by simp)
    have e : expand (q :: rs) = List.replicate q.2.toNat q.1 ++ expand rs := by simp [expand]
    have e2 : tot (q :: rs) = q.2 + tot rs := by simp [tot]
    rw [e, e2, List.length_append, List.length_replicate]
    omega
theorem expand_By {rs : Runs} (h : ∀ p ∈ rs, 0 ≤ p.1 ∧ p.1 < 256) : By (expand rs) := by
  intro n hn
  obtain ⟨p, hp, hn⟩ := List.mem_flatMap.mp hn
  rw [(List.mem_replicate.mp hn).2]
  exact h p hp
def sp__law_ticks (A : Ad) : SpD := fun ds S Q _ => ∃ rs : Runs, ds = [.rol (rs.map prD)] ∧ (∀ p ∈ rs, 0 ≤ p.2) ∧ tot rs ≤ 100000 ∧ rs.length ≤ 100000 ∧ Q (.tup (List.map Dv.int (expand rs))) S
theorem len__law_ticks (A : Ad) : ∀ ds S Q X, sp__law_ticks A ds S Q X → ds.length = 1 := by rintro _ _ _ _ ⟨_, rfl, _⟩; rfl
def r__law_ticks (A : Ad) : DS := (dSeq (dAsg (dLst dNil) (gN 1))
    (dSeq (dFor (iSeqD (dVar 0)) (gT 2 (gConsD (gN 2) (gConsD (gN 3) gNilD))) (dDrop (dBM rdExt (dVar 1) (dCons (dOp rdMulV (dLstV (dCons (dVar 2) dNil)) (dVar 3)) dNil))))
    (dRet (dCB rdTuple (dCons (dVar 1) dNil)))))
theorem rd__law_ticks (A : Ad) : Rd (r__law_ticks A) 4 (sp__law_ticks A) := by
  rintro ds S Q X ⟨rs, rfl, h0, ht, hl, h⟩
  unfold r__law_ticks
  simp only [dSeq, dAsg, dRet, dRetN, dDrop, dRaise, dBreak, dCont, dPar, dAug, dFor, dNext, dSetF, dAugF, dRaiseF, dIfS, dTest, dOp, dVar, dC, dCB, dCons, dNil, dCall, dAndV, dOrV, dNotV, dAndT, dOrT, dNotT, dIf, dTup, dLst, dLstV, dSl, dSlV, rdSlV, oSome, oNone, dNeg, gN, gT, gConsD, gNilD, gSubD, gFldD, dChain, dLc, dBM, isLst, iSeqD, iR1, iR2, iR3, dYes, rdAddV, rdMulV, rdSub, rdDiv, rdMod, rdPow, rdIAdd, rdCmp, rdIsN, isn_non, isn_bl, isn_int, isn_str, isn_ref, isn_tup, isn_rol, isn_obj, rdEqG, rdIx_tup, rdIx_rol, rdIx_put, rdSet, rdLen_tup, rdLen_rol, rdLen_str, rdLen_put, rdInt1, rdInt, rdInt2, rdAppend, rdExt, rdPopAt, rdMaxL, rdMinL, rdListV, rdIsB, isBlV, rdStrI, rdIntS, dFrz, dFld, insOf_put, dMeth, lstOf_rol, lstOf_put, seqOf_tup, seqOf_rol, seqOf_put, frz_tup, frz_rol, frz_int, frz_bl, frz_non, frz_str, frz_obj, startN, wipeD, List.map_cons, List.map_nil, List.length_cons, List.length_nil, Nat.zero_add, Nat.sub_self, Nat.reduceAdd, Nat.reduceSub, List.replicate_succ, List.replicate_zero, List.cons_append, List.nil_append, List.append_nil, List.getElem?_cons_zero, List.getElem?_cons_succ, List.set_cons_zero, List.set_cons_succ, Option.some.injEq, exists_eq_left', DEnds.xd, atI_0, atI_1, atI_2, atI_3, atI_4, atI_5, atI_6, atI_7, ixN_50, ixN_51, ixN_52, ixN_53, ixN_54, ixN_30, ixN_31, ixN_32, put_same, put_put, true_and, and_true, decide_true, decide_false, Bool.not_true, Bool.not_false, Bool.false_eq_true, if_true, if_false, decide_eq_true_eq, Bool.not_eq_true', decide_eq_false_iff_not, mem_one, ex_one, and_self]
  refine ⟨slK, fun p hp => ?_⟩
  refine for_go (fun i ρ T => T = put S p (.lst (List.map Dv.int (expand (rs.take i)))) ∧ ∃ y z, ρ = [some (.rol (rs.map prD)), some (.ref p), y, z]) ⟨rfl, _, _, rfl⟩ (fun _ _ _ _ _ => trivial) (fun i x ρ T hx hw => ?_) fun ρ T hw => ?_
  · obtain ⟨rfl, y, z, rfl⟩ := hw
    obtain ⟨⟨b, m⟩, hb, rfl⟩ := map_get hx
    have hm := h0 (b, m) (List.mem_of_getElem? hb)
    dsimp only at hm
    have e1 : rs.take (i + 1) = rs.take i ++ [(b, m)] := by rw [List.take_add_one, hb]; rfl
    have h1 := tot_take h0 (i + 1)
    have h2 := expand_tot (rs.take i) fun p hp => h0 p (List.mem_of_mem_take hp)
    have h3 : tot (rs.take (i + 1)) = tot (rs.take i) + m := by rw [e1, tot_app]; simp [tot]
    unfold prD
    simp only [dSeq, dAsg, dRet, dRetN, dDrop, dRaise, dBreak, dCont, dPar, dAug, dFor, dNext, dSetF, dAugF, dRaiseF, dIfS, dTest, dOp, dVar, dC, dCB, dCons, dNil, dCall, dAndV, dOrV, dNotV, dAndT, dOrT, dNotT, dIf, dTup, dLst, dLstV, dSl, dSlV, rdSlV, oSome, oNone, dNeg, gN, gT, gConsD, gNilD, gSubD, gFldD, dChain, dLc, dBM, isLst, iSeqD, iR1, iR2, iR3, dYes, rdAddV, rdMulV, rdSub, rdDiv, rdMod, rdPow, rdIAdd, rdCmp, rdIsN, isn_non, isn_bl, isn_int, isn_str, isn_ref, isn_tup, isn_rol, isn_obj, rdEqG, rdIx_tup, rdIx_rol, rdIx_put, rdSet, rdLen_tup, rdLen_rol, rdLen_str, rdLen_put, rdInt1, rdInt, rdInt2, rdAppend, rdExt, rdPopAt, rdMaxL, rdMinL, rdListV, rdIsB, isBlV, rdStrI, rdIntS, dFrz, dFld, insOf_put, dMeth, lstOf_rol, lstOf_put, seqOf_tup, seqOf_rol, seqOf_put, frz_tup, frz_rol, frz_int, frz_bl, frz_non, frz_str, frz_obj, startN, wipeD, List.map_cons, List.map_nil, List.length_cons, List.length_nil, Nat.zero_add, Nat.sub_self, Nat.reduceAdd, Nat.reduceSub, List.replicate_succ, List.replicate_zero, List.cons_append, List.nil_append, List.append_nil, List.getElem?_cons_zero, List.getElem?_cons_succ, List.set_cons_zero, List.set_cons_succ, Option.some.injEq, exists_eq_left', DEnds.xd, atI_0, atI_1, atI_2, atI_3, atI_4, atI_5, atI_6, atI_7, ixN_50, ixN_51, ixN_52, ixN_53, ixN_54, ixN_30, ixN_31, ixN_32, put_same, put_put, true_and, and_true, decide_true, decide_false, Bool.not_true, Bool.not_false, Bool.false_eq_true, if_true, if_false, decide_eq_true_eq, Bool.not_eq_true', decide_eq_false_iff_not, mem_one, ex_one, and_self]
    refine ⟨slK, ⟨⟨by omega, by omega⟩, by rw [sizeLine_eq]; omega⟩, ?_, ?_, _, _, rfl⟩
    · rw [flat_one, sizeLine_eq]
      simp only [List.length_map, List.length_replicate]
      omega
    · rw [flat_one, e1, expand_append, expand_one, List.map_append, List.map_replicate]
  · obtain ⟨rfl, y, z, rfl⟩ := hw
    simp only [dSeq, dAsg, dRet, dRetN, dDrop, dRaise, dBreak, dCont, dPar, dAug, dFor, dNext, dSetF, dAugF, dRaiseF, dIfS, dTest, dOp, dVar, dC, dCB, dCons, dNil, dCall, dAndV, dOrV, dNotV, dAndT, dOrT, dNotT, dIf, dTup, dLst, dLstV, dSl, dSlV, rdSlV, oSome, oNone, dNeg, gN, gT, gConsD, gNilD, gSubD, gFldD, dChain, dLc, dBM, isLst, iSeqD, iR1, iR2, iR3, dYes, rdAddV, rdMulV, rdSub, rdDiv, rdMod, rdPow, rdIAdd, rdCmp, rdIsN, isn_non, isn_bl, isn_int, isn_str, isn_ref, isn_tup, isn_rol, isn_obj, rdEqG, rdIx_tup, rdIx_rol, rdIx_put, rdSet, rdLen_tup, rdLen_rol, rdLen_str, rdLen_put, rdInt1, rdInt, rdInt2, rdAppend, rdExt, rdPopAt, rdMaxL, rdMinL, rdListV, rdIsB, isBlV, rdStrI, rdIntS, dFrz, dFld, insOf_put, dMeth, lstOf_rol, lstOf_put, seqOf_tup, seqOf_rol, seqOf_put, frz_tup, frz_rol, frz_int, frz_bl, frz_non, frz_str, frz_obj, startN, wipeD, List.map_cons, List.map_nil, List.length_cons, List.length_nil, Nat.zero_add, Nat.sub_self, Nat.reduceAdd, Nat.reduceSub, List.replicate_succ, List.replicate_zero, List.cons_append, List.nil_append, List.append_nil, List.getElem?_cons_zero, List.getElem?_cons_succ, List.set_cons_zero, List.set_cons_succ, Option.some.injEq, exists_eq_left', DEnds.xd, atI_0, atI_1, atI_2, atI_3, atI_4, atI_5, atI_6, atI_7, ixN_50, ixN_51, ixN_52, ixN_53, ixN_54, ixN_30, ixN_31, ixN_32, put_same, put_put, true_and, and_true, decide_true, decide_false, Bool.not_true, Bool.not_false, Bool.false_eq_true, if_true, if_false, decide_eq_true_eq, Bool.not_eq_true', decide_eq_false_iff_not, mem_one, ex_one, and_self]
    rw [List.length_map, List.take_length]
    exact tup_new hp h
def sp__law_run_bytes (A : Ad) : SpD := fun ds S Q _ => ∃ rs : Runs, ds = [.rol (rs.map prD)] ∧ (∀ p ∈ rs, 0 ≤ p.2 ∧ p.2 < 18446744073709551616) ∧ rs.length ≤ 100000 ∧ Q (.tup (List.map Dv.int (runB rs))) S
theorem len__law_run_bytes (A : Ad) : ∀ ds S Q X, sp__law_run_bytes A ds S Q X → ds.length = 1 := by rintro _ _ _ _ ⟨_, rfl, _⟩; rfl
def r__law_run_bytes (A : Ad) : DS := (dSeq (dAsg (dCB rdList (dCons (dCall (sp__law_whole A) (dCons (dCB rdLen (dCons (dVar 0) dNil)) dNil)) dNil)) (gN 1))
    (dSeq (dFor (iSeqD (dVar 0)) (gT 2 (gConsD (gN 2) (gConsD (gN 3) gNilD))) (dSeq (dDrop (dBM rdAppend (dVar 1) (dCons (dVar 2) dNil)))
    (dDrop (dBM rdExt (dVar 1) (dCons (dCall (sp__law_whole A) (dCons (dVar 3) dNil)) dNil)))))
    (dRet (dCB rdTuple (dCons (dVar 1) dNil)))))
theorem rd__law_run_bytes (A : Ad) : Rd (r__law_run_bytes A) 4 (sp__law_run_bytes A) := by
  rintro ds S Q X ⟨rs, rfl, h0, hl, h⟩
  unfold r__law_run_bytes
  simp only [dSeq, dAsg, dRet, dRetN, dDrop, dRaise, dBreak, dCont, dPar, dAug, dFor, dNext, dSetF, dAugF, dRaiseF, dIfS, dTest, dOp, dVar, dC, dCB, dCons, dNil, dCall, dAndV, dOrV, dNotV, dAndT, dOrT, dNotT, dIf, dTup, dLst, dLstV, dSl, dSlV, rdSlV, oSome, oNone, dNeg, gN, gT, gConsD, gNilD, gSubD, gFldD, dChain, dLc, dBM, isLst, iSeqD, iR1, iR2, iR3, dYes, rdAddV, rdMulV, rdSub, rdDiv, rdMod, rdPow, rdIAdd, rdCmp, rdIsN, isn_non, isn_bl, isn_int, isn_str, isn_ref, isn_tup, isn_rol, isn_obj, rdEqG, rdIx_tup, rdIx_rol, rdIx_put, rdSet, rdLen_tup, rdLen_rol, rdLen_str, rdLen_put, rdInt1, rdInt, rdInt2, rdAppend, rdExt, rdPopAt, rdMaxL, rdMinL, rdListV, rdIsB, isBlV, rdStrI, rdIntS, dFrz, dFld, insOf_put, dMeth, lstOf_rol, lstOf_put, seqOf_tup, seqOf_rol, seqOf_put, frz_tup, frz_rol, frz_int, frz_bl, frz_non, frz_str, frz_obj, startN, wipeD, List.map_cons, List.map_nil, List.length_cons, List.length_nil, Nat.zero_add, Nat.sub_self, Nat.reduceAdd, Nat.reduceSub, List.replicate_succ, List.replicate_zero, List.cons_append, List.nil_append, List.append_nil, List.getElem?_cons_zero, List.getElem?_cons_succ, List.set_cons_zero, List.set_cons_succ, Option.some.injEq, exists_eq_left', DEnds.xd, atI_0, atI_1, atI_2, atI_3, atI_4, atI_5, atI_6, atI_7, ixN_50, ixN_51, ixN_52, ixN_53, ixN_54, ixN_30, ixN_31, ixN_32, put_same, put_put, true_and, and_true, decide_true, decide_false, Bool.not_true, Bool.not_false, Bool.false_eq_true, if_true, if_false, decide_eq_true_eq, Bool.not_eq_true', decide_eq_false_iff_not, mem_one, ex_one, and_self]
  refine ⟨_, rfl, by omega, by rw [List.length_map]; omega, ?_⟩
  unfold rdList
  simp only [dSeq, dAsg, dRet, dRetN, dDrop, dRaise, dBreak, dCont, dPar, dAug, dFor, dNext, dSetF, dAugF, dRaiseF, dIfS, dTest, dOp, dVar, dC, dCB, dCons, dNil, dCall, dAndV, dOrV, dNotV, dAndT, dOrT, dNotT, dIf, dTup, dLst, dLstV, dSl, dSlV, rdSlV, oSome, oNone, dNeg, gN, gT, gConsD, gNilD, gSubD, gFldD, dChain, dLc, dBM, isLst, iSeqD, iR1, iR2, iR3, dYes, rdAddV, rdMulV, rdSub, rdDiv, rdMod, rdPow, rdIAdd, rdCmp, rdIsN, isn_non, isn_bl, isn_int, isn_str, isn_ref, isn_tup, isn_rol, isn_obj, rdEqG, rdIx_tup, rdIx_rol, rdIx_put, rdSet, rdLen_tup, rdLen_rol, rdLen_str, rdLen_put, rdInt1, rdInt, rdInt2, rdAppend, rdExt, rdPopAt, rdMaxL, rdMinL, rdListV, rdIsB, isBlV, rdStrI, rdIntS, dFrz, dFld, insOf_put, dMeth, lstOf_rol, lstOf_put, seqOf_tup, seqOf_rol, seqOf_put, frz_tup, frz_rol, frz_int, frz_bl, frz_non, frz_str, frz_obj, startN, wipeD, List.map_cons, List.map_nil, List.length_cons, List.length_nil, Nat.zero_add, Nat.sub_self, Nat.reduceAdd, Nat.reduceSub, List.replicate_succ, List.replicate_zero, List.cons_append, List.nil_append, List.append_nil, List.getElem?_cons_zero, List.getElem?_cons_succ, List.set_cons_zero, List.set_cons_succ, Option.some.injEq, exists_eq_left', DEnds.xd, atI_0, atI_1, atI_2, atI_3, atI_4, atI_5, atI_6, atI_7, ixN_50, ixN_51, ixN_52, ixN_53, ixN_54, ixN_30, ixN_31, ixN_32, put_same, put_put, true_and, and_true, decide_true, decide_false, Bool.not_true, Bool.not_false, Bool.false_eq_true, if_true, if_false, decide_eq_true_eq, Bool.not_eq_true', decide_eq_false_iff_not, mem_one, ex_one, and_self]
  intro p hp
  rw [List.length_map]
  refine for_go (fun i ρ T => T = put S p (.lst (List.map Dv.int (figs (rs.length : Int) ++ (rs.take i).flatMap fun p => p.1 :: figs p.2))) ∧ ∃ y z, ρ = [some (.rol (rs.map prD)), some (.ref p), y, z]) ⟨by simp, _, _, rfl⟩ (fun _ _ _ _ _ => trivial) (fun i x ρ T hx hw => ?_) fun ρ T hw => ?_
  · obtain ⟨rfl, y, z, rfl⟩ := hw
    obtain ⟨⟨b, m⟩, hb, rfl⟩ := map_get hx
    have hi := (List.getElem?_eq_some_iff.mp hb).1
    have hm := h0 (b, m) (List.mem_of_getElem? hb)
    have f1 := figs_len (rs.length : Int)
    have f2 := figs_len m
    have f3 := flatB_len (rs.take i)
    rw [List.length_take] at f3
    unfold prD
    simp only [dSeq, dAsg, dRet, dRetN, dDrop, dRaise, dBreak, dCont, dPar, dAug, dFor, dNext, dSetF, dAugF, dRaiseF, dIfS, dTest, dOp, dVar, dC, dCB, dCons, dNil, dCall, dAndV, dOrV, dNotV, dAndT, dOrT, dNotT, dIf, dTup, dLst, dLstV, dSl, dSlV, rdSlV, oSome, oNone, dNeg, gN, gT, gConsD, gNilD, gSubD, gFldD, dChain, dLc, dBM, isLst, iSeqD, iR1, iR2, iR3, dYes, rdAddV, rdMulV, rdSub, rdDiv, rdMod, rdPow, rdIAdd, rdCmp, rdIsN, isn_non, isn_bl, isn_int, isn_str, isn_ref, isn_tup, isn_rol, isn_obj, rdEqG, rdIx_tup, rdIx_rol, rdIx_put, rdSet, rdLen_tup, rdLen_rol, rdLen_str, rdLen_put, rdInt1, rdInt, rdInt2, rdAppend, rdExt, rdPopAt, rdMaxL, rdMinL, rdListV, rdIsB, isBlV, rdStrI, rdIntS, dFrz, dFld, insOf_put, dMeth, lstOf_rol, lstOf_put, seqOf_tup, seqOf_rol, seqOf_put, frz_tup, frz_rol, frz_int, frz_bl, frz_non, frz_str, frz_obj, startN, wipeD, List.map_cons, List.map_nil, List.length_cons, List.length_nil, Nat.zero_add, Nat.sub_self, Nat.reduceAdd, Nat.reduceSub, List.replicate_succ, List.replicate_zero, List.cons_append, List.nil_append, List.append_nil, List.getElem?_cons_zero, List.getElem?_cons_succ, List.set_cons_zero, List.set_cons_succ, Option.some.injEq, exists_eq_left', DEnds.xd, atI_0, atI_1, atI_2, atI_3, atI_4, atI_5, atI_6, atI_7, ixN_50, ixN_51, ixN_52, ixN_53, ixN_54, ixN_30, ixN_31, ixN_32, put_same, put_put, true_and, and_true, decide_true, decide_false, Bool.not_true, Bool.not_false, Bool.false_eq_true, if_true, if_false, decide_eq_true_eq, Bool.not_eq_true', decide_eq_false_iff_not, mem_one, ex_one, and_self]
    refine ⟨by rw [List.length_map, List.length_append, sizeLine_eq]; omega, m, rfl, hm.1, hm.2, ?_⟩
    simp only [dSeq, dAsg, dRet, dRetN, dDrop, dRaise, dBreak, dCont, dPar, dAug, dFor, dNext, dSetF, dAugF, dRaiseF, dIfS, dTest, dOp, dVar, dC, dCB, dCons, dNil, dCall, dAndV, dOrV, dNotV, dAndT, dOrT, dNotT, dIf, dTup, dLst, dLstV, dSl, dSlV, rdSlV, oSome, oNone, dNeg, gN, gT, gConsD, gNilD, gSubD, gFldD, dChain, dLc, dBM, isLst, iSeqD, iR1, iR2, iR3, dYes, rdAddV, rdMulV, rdSub, rdDiv, rdMod, rdPow, rdIAdd, rdCmp, rdIsN, isn_non, isn_bl, isn_int, isn_str, isn_ref, isn_tup, isn_rol, isn_obj, rdEqG, rdIx_tup, rdIx_rol, rdIx_put, rdSet, rdLen_tup, rdLen_rol, rdLen_str, rdLen_put, rdInt1, rdInt, rdInt2, rdAppend, rdExt, rdPopAt, rdMaxL, rdMinL, rdListV, rdIsB, isBlV, rdStrI, rdIntS, dFrz, dFld, insOf_put, dMeth, lstOf_rol, lstOf_put, seqOf_tup, seqOf_rol, seqOf_put, frz_tup, frz_rol, frz_int, frz_bl, frz_non, frz_str, frz_obj, startN, wipeD, List.map_cons, List.map_nil, List.length_cons, List.length_nil, Nat.zero_add, Nat.sub_self, Nat.reduceAdd, Nat.reduceSub, List.replicate_succ, List.replicate_zero, List.cons_append, List.nil_append, List.append_nil, List.getElem?_cons_zero, List.getElem?_cons_succ, List.set_cons_zero, List.set_cons_succ, Option.some.injEq, exists_eq_left', DEnds.xd, atI_0, atI_1, atI_2, atI_3, atI_4, atI_5, atI_6, atI_7, ixN_50, ixN_51, ixN_52, ixN_53, ixN_54, ixN_30, ixN_31, ixN_32, put_same, put_put, true_and, and_true, decide_true, decide_false, Bool.not_true, Bool.not_false, Bool.false_eq_true, if_true, if_false, decide_eq_true_eq, Bool.not_eq_true', decide_eq_false_iff_not, mem_one, ex_one, and_self]
    refine ⟨?_, ?_, _, _, rfl⟩
    · simp only [List.length_append, List.length_map, List.length_cons, List.length_nil]
      rw [sizeLine_eq]
      omega
    · rw [List.take_add_one, hb, Option.toList_some, flatB_snoc]
      simp
  · obtain ⟨rfl, y, z, rfl⟩ := hw
    simp only [dSeq, dAsg, dRet, dRetN, dDrop, dRaise, dBreak, dCont, dPar, dAug, dFor, dNext, dSetF, dAugF, dRaiseF, dIfS, dTest, dOp, dVar, dC, dCB, dCons, dNil, dCall, dAndV, dOrV, dNotV, dAndT, dOrT, dNotT, dIf, dTup, dLst, dLstV, dSl, dSlV, rdSlV, oSome, oNone, dNeg, gN, gT, gConsD, gNilD, gSubD, gFldD, dChain, dLc, dBM, isLst, iSeqD, iR1, iR2, iR3, dYes, rdAddV, rdMulV, rdSub, rdDiv, rdMod, rdPow, rdIAdd, rdCmp, rdIsN, isn_non, isn_bl, isn_int, isn_str, isn_ref, isn_tup, isn_rol, isn_obj, rdEqG, rdIx_tup, rdIx_rol, rdIx_put, rdSet, rdLen_tup, rdLen_rol, rdLen_str, rdLen_put, rdInt1, rdInt, rdInt2, rdAppend, rdExt, rdPopAt, rdMaxL, rdMinL, rdListV, rdIsB, isBlV, rdStrI, rdIntS, dFrz, dFld, insOf_put, dMeth, lstOf_rol, lstOf_put, seqOf_tup, seqOf_rol, seqOf_put, frz_tup, frz_rol, frz_int, frz_bl, frz_non, frz_str, frz_obj, startN, wipeD, List.map_cons, List.map_nil, List.length_cons, List.length_nil, Nat.zero_add, Nat.sub_self, Nat.reduceAdd, Nat.reduceSub, List.replicate_succ, List.replicate_zero, List.cons_append, List.nil_append, List.append_nil, List.getElem?_cons_zero, List.getElem?_cons_succ, List.set_cons_zero, List.set_cons_succ, Option.some.injEq, exists_eq_left', DEnds.xd, atI_0, atI_1, atI_2, atI_3, atI_4, atI_5, atI_6, atI_7, ixN_50, ixN_51, ixN_52, ixN_53, ixN_54, ixN_30, ixN_31, ixN_32, put_same, put_put, true_and, and_true, decide_true, decide_false, Bool.not_true, Bool.not_false, Bool.false_eq_true, if_true, if_false, decide_eq_true_eq, Bool.not_eq_true', decide_eq_false_iff_not, mem_one, ex_one, and_self]
    rw [List.length_map, List.take_length]
    exact tup_new hp h
def sp__law_input_bytes (A : Ad) : SpD := fun ds S Q _ => ∃ xs : List Int, ds = [.tup (List.map Dv.int xs)] ∧ xs.length ≤ 100000 ∧ Q (.tup (List.map Dv.int (runB (runsF xs)))) S
theorem len__law_input_bytes (A : Ad) : ∀ ds S Q X, sp__law_input_bytes A ds S Q X → ds.length = 1 := by rintro _ _ _ _ ⟨_, rfl, _⟩; rfl
def r__law_input_bytes (A : Ad) : DS := (dSeq (dAsg (dLst dNil) (gN 1))
    (dSeq (dAsg (dC (.int 0)) (gN 2))
    (dSeq (dFor (iR2 (dCons (dC (.int 1)) (dCons (dOp rdAddV (dCB rdLen (dCons (dVar 0) dNil)) (dC (.int 1))) dNil))) (gN 3) (dIfS (dOrT (dTest (dOp rdEq (dVar 3) (dCB rdLen (dCons (dVar 0) dNil)))) (dTest (dOp rdNe (dOp rdIx (dVar 0) (dVar 3)) (dOp rdIx (dVar 0) (dVar 2))))) (dSeq (dDrop (dBM rdAppend (dVar 1) (dCons (dTup (dCons (dOp rdIx (dVar 0) (dVar 2)) (dCons (dOp rdSub (dVar 3) (dVar 2)) dNil))) dNil)))
    (dAsg (dVar 3) (gN 2))) dNext))
    (dRet (dCall (sp__law_run_bytes A) (dCons (dFrz (dVar 1)) dNil))))))
theorem rd__law_input_bytes (A : Ad) : Rd (r__law_input_bytes A) 4 (sp__law_input_bytes A) := by
  rintro ds S Q X ⟨xs, rfl, hl, h⟩
  unfold r__law_input_bytes
  simp only [dSeq, dAsg, dRet, dRetN, dDrop, dRaise, dBreak, dCont, dPar, dAug, dFor, dNext, dSetF, dAugF, dRaiseF, dIfS, dTest, dOp, dVar, dC, dCB, dCons, dNil, dCall, dAndV, dOrV, dNotV, dAndT, dOrT, dNotT, dIf, dTup, dLst, dLstV, dSl, dSlV, rdSlV, oSome, oNone, dNeg, gN, gT, gConsD, gNilD, gSubD, gFldD, dChain, dLc, dBM, isLst, iSeqD, iR1, iR2, iR3, dYes, rdAddV, rdMulV, rdSub, rdDiv, rdMod, rdPow, rdIAdd, rdCmp, rdIsN, isn_non, isn_bl, isn_int, isn_str, isn_ref, isn_tup, isn_rol, isn_obj, rdEqG, rdIx_tup, rdIx_rol, rdIx_put, rdSet, rdLen_tup, rdLen_rol, rdLen_str, rdLen_put, rdInt1, rdInt, rdInt2, rdAppend, rdExt, rdPopAt, rdMaxL, rdMinL, rdListV, rdIsB, isBlV, rdStrI, rdIntS, dFrz, dFld, insOf_put, dMeth, lstOf_rol, lstOf_put, seqOf_tup, seqOf_rol, seqOf_put, frz_tup, frz_rol, frz_int, frz_bl, frz_non, frz_str, frz_obj, startN, wipeD, List.map_cons, List.map_nil, List.length_cons, List.length_nil, Nat.zero_add, Nat.sub_self, Nat.reduceAdd, Nat.reduceSub, List.replicate_succ, List.replicate_zero, List.cons_append, List.nil_append, List.append_nil, List.getElem?_cons_zero, List.getElem?_cons_succ, List.set_cons_zero, List.set_cons_succ, Option.some.injEq, exists_eq_left', DEnds.xd, atI_0, atI_1, atI_2, atI_3, atI_4, atI_5, atI_6, atI_7, ixN_50, ixN_51, ixN_52, ixN_53, ixN_54, ixN_30, ixN_31, ixN_32, put_same, put_put, true_and, and_true, decide_true, decide_false, Bool.not_true, Bool.not_false, Bool.false_eq_true, if_true, if_false, decide_eq_true_eq, Bool.not_eq_true', decide_eq_false_iff_not, mem_one, ex_one, and_self]
  refine ⟨slK, fun p hp => ?_⟩
  have hz : ((List.map Dv.int xs).length : Int) + 1 - 1 = (xs.length : Nat) := by rw [List.length_map]; omega
  rw [hz, Int.toNat_natCast]
  refine for_go (fun i ρ T => ∃ (R : Runs) (b : Nat) (z : _), T = put S p (.lst (R.map prD)) ∧ ρ = [some (.tup (List.map Dv.int xs)), some (.ref p), some (.int b), z] ∧ (i < xs.length → b ≤ i ∧ ∃ v, xs[b]? = some v ∧ runsF (xs.take (i + 1)) = R ++ [(v, (i : Int) + 1 - b)]) ∧ (i = xs.length → R = runsF xs)) ⟨[], 0, _, rfl, rfl, fun hi => ⟨Nat.le_refl _, ?_⟩, fun hi => ?_⟩ (fun _ _ _ _ _ => trivial) (fun i x ρ T hx hw => ?_) fun ρ T hw => ?_
  · cases xs with
    | nil => simp at hi
    | cons v xs => exact ⟨v, rfl, rfl⟩
  · cases xs with
    | nil => rfl
    | cons v xs => simp at hi
  · obtain ⟨R, b, z, rfl, rfl, h1, -⟩ := hw
    obtain ⟨hi, rfl⟩ := rangeL_mem hx
    obtain ⟨hb, v, hv, hR⟩ := h1 hi
    simp only [dSeq, dAsg, dRet, dRetN, dDrop, dRaise, dBreak, dCont, dPar, dAug, dFor, dNext, dSetF, dAugF, dRaiseF, dIfS, dTest, dOp, dVar, dC, dCB, dCons, dNil, dCall, dAndV, dOrV, dNotV, dAndT, dOrT, dNotT, dIf, dTup, dLst, dLstV, dSl, dSlV, rdSlV, oSome, oNone, dNeg, gN, gT, gConsD, gNilD, gSubD, gFldD, dChain, dLc, dBM, isLst, iSeqD, iR1, iR2, iR3, dYes, rdAddV, rdMulV, rdSub, rdDiv, rdMod, rdPow, rdIAdd, rdCmp, rdIsN, isn_non, isn_bl, isn_int, isn_str, isn_ref, isn_tup, isn_rol, isn_obj, rdEqG, rdIx_tup, rdIx_rol, rdIx_put, rdSet, rdLen_tup, rdLen_rol, rdLen_str, rdLen_put, rdInt1, rdInt, rdInt2, rdAppend, rdExt, rdPopAt, rdMaxL, rdMinL, rdListV, rdIsB, isBlV, rdStrI, rdIntS, dFrz, dFld, insOf_put, dMeth, lstOf_rol, lstOf_put, seqOf_tup, seqOf_rol, seqOf_put, frz_tup, frz_rol, frz_int, frz_bl, frz_non, frz_str, frz_obj, startN, wipeD, List.map_cons, List.map_nil, List.length_cons, List.length_nil, Nat.zero_add, Nat.sub_self, Nat.reduceAdd, Nat.reduceSub, List.replicate_succ, List.replicate_zero, List.cons_append, List.nil_append, List.append_nil, List.getElem?_cons_zero, List.getElem?_cons_succ, List.set_cons_zero, List.set_cons_succ, Option.some.injEq, exists_eq_left', DEnds.xd, atI_0, atI_1, atI_2, atI_3, atI_4, atI_5, atI_6, atI_7, ixN_50, ixN_51, ixN_52, ixN_53, ixN_54, ixN_30, ixN_31, ixN_32, put_same, put_put, true_and, and_true, decide_true, decide_false, Bool.not_true, Bool.not_false, Bool.false_eq_true, if_true, if_false, decide_eq_true_eq, Bool.not_eq_true', decide_eq_false_iff_not, mem_one, ex_one, and_self]
    have app : R.length ≤ 100000 := by
      have a1 := runsF_len (xs.take (i + 1))
      rw [hR] at a1
      simp at a1
      omega
    have atb : atI (List.map Dv.int xs) (b : Int) = some (.int v) := atI_ints hv
    have put1 : (List.map prD R ++ [Dv.tup [.int v, .int (1 + (i : Int) - b)]]) = List.map prD (R ++ [(v, 1 + (i : Int) - b)]) := by rw [List.map_append]; rfl
    have hR' : runsF (xs.take (i + 1)) = R ++ [(v, 1 + (i : Int) - b)] := by rw [hR, Int.add_comm]
    have fit : (List.map prD R).length < sizeLine := by rw [List.length_map, sizeLine_eq]; omega
    rw [List.length_map]
    by_cases c1 : (1 : Int) + i = xs.length
    · rw [if_pos c1]
      refine ⟨_, atb, sl2, fit, R ++ [(v, 1 + (i : Int) - b)], i + 1, _, by rw [put1], by rw [show ((i + 1 : Nat) : Int) = 1 + i by omega], fun z => by omega, fun _ => ?_⟩
      rw [← hR', List.take_of_length_le (by omega)]
    · rw [if_neg c1]
      have hi2 : i + 1 < xs.length := by omega
      obtain ⟨w, hw⟩ : ∃ w, xs[i + 1]? = some w := ⟨_, List.getElem?_eq_getElem hi2⟩
      have e2 : xs.take (i + 1 + 1) = xs.take (i + 1) ++ [w] := by rw [List.take_add_one, hw]; rfl
      refine ⟨_, by rw [show (1 : Int) + i = ((i + 1 : Nat) : Int) by omega]; exact atI_ints hw, _, atb, ?_⟩
      simp only [dSeq, dAsg, dRet, dRetN, dDrop, dRaise, dBreak, dCont, dPar, dAug, dFor, dNext, dSetF, dAugF, dRaiseF, dIfS, dTest, dOp, dVar, dC, dCB, dCons, dNil, dCall, dAndV, dOrV, dNotV, dAndT, dOrT, dNotT, dIf, dTup, dLst, dLstV, dSl, dSlV, rdSlV, oSome, oNone, dNeg, gN, gT, gConsD, gNilD, gSubD, gFldD, dChain, dLc, dBM, isLst, iSeqD, iR1, iR2, iR3, dYes, rdAddV, rdMulV, rdSub, rdDiv, rdMod, rdPow, rdIAdd, rdCmp, rdIsN, isn_non, isn_bl, isn_int, isn_str, isn_ref, isn_tup, isn_rol, isn_obj, rdEqG, rdIx_tup, rdIx_rol, rdIx_put, rdSet, rdLen_tup, rdLen_rol, rdLen_str, rdLen_put, rdInt1, rdInt, rdInt2, rdAppend, rdExt, rdPopAt, rdMaxL, rdMinL, rdListV, rdIsB, isBlV, rdStrI, rdIntS, dFrz, dFld, insOf_put, dMeth, lstOf_rol, lstOf_put, seqOf_tup, seqOf_rol, seqOf_put, frz_tup, frz_rol, frz_int, frz_bl, frz_non, frz_str, frz_obj, startN, wipeD, List.map_cons, List.map_nil, List.length_cons, List.length_nil, Nat.zero_add, Nat.sub_self, Nat.reduceAdd, Nat.reduceSub, List.replicate_succ, List.replicate_zero, List.cons_append, List.nil_append, List.append_nil, List.getElem?_cons_zero, List.getElem?_cons_succ, List.set_cons_zero, List.set_cons_succ, Option.some.injEq, exists_eq_left', DEnds.xd, atI_0, atI_1, atI_2, atI_3, atI_4, atI_5, atI_6, atI_7, ixN_50, ixN_51, ixN_52, ixN_53, ixN_54, ixN_30, ixN_31, ixN_32, put_same, put_put, true_and, and_true, decide_true, decide_false, Bool.not_true, Bool.not_false, Bool.false_eq_true, if_true, if_false, decide_eq_true_eq, Bool.not_eq_true', decide_eq_false_iff_not, mem_one, ex_one, and_self]
      by_cases c2 : w = v
      · rw [if_neg (by simp [c2])]
        refine ⟨R, b, _, rfl, rfl, fun _ => ⟨by omega, v, hv, ?_⟩, fun z => by omega⟩
        rw [e2, runsF_snoc, hR, addRun_last, if_pos c2.symm]
        simp
        omega
      · rw [if_pos (by simp [c2])]
        refine ⟨_, atb, sl2, fit, R ++ [(v, 1 + (i : Int) - b)], i + 1, _, by rw [put1], by rw [show ((i + 1 : Nat) : Int) = 1 + i by omega], fun _ => ⟨by omega, w, hw, ?_⟩, fun z => by omega⟩
        rw [e2, runsF_snoc, hR', addRun_last, if_neg fun z => c2 z.symm]
        simp
        omega
  · obtain ⟨R, b, z, rfl, rfl, -, h2⟩ := hw
    rw [rangeL_len] at h2
    have hR := h2 rfl
    subst hR
    simp only [dSeq, dAsg, dRet, dRetN, dDrop, dRaise, dBreak, dCont, dPar, dAug, dFor, dNext, dSetF, dAugF, dRaiseF, dIfS, dTest, dOp, dVar, dC, dCB, dCons, dNil, dCall, dAndV, dOrV, dNotV, dAndT, dOrT, dNotT, dIf, dTup, dLst, dLstV, dSl, dSlV, rdSlV, oSome, oNone, dNeg, gN, gT, gConsD, gNilD, gSubD, gFldD, dChain, dLc, dBM, isLst, iSeqD, iR1, iR2, iR3, dYes, rdAddV, rdMulV, rdSub, rdDiv, rdMod, rdPow, rdIAdd, rdCmp, rdIsN, isn_non, isn_bl, isn_int, isn_str, isn_ref, isn_tup, isn_rol, isn_obj, rdEqG, rdIx_tup, rdIx_rol, rdIx_put, rdSet, rdLen_tup, rdLen_rol, rdLen_str, rdLen_put, rdInt1, rdInt, rdInt2, rdAppend, rdExt, rdPopAt, rdMaxL, rdMinL, rdListV, rdIsB, isBlV, rdStrI, rdIntS, dFrz, dFld, insOf_put, dMeth, lstOf_rol, lstOf_put, seqOf_tup, seqOf_rol, seqOf_put, frz_tup, frz_rol, frz_int, frz_bl, frz_non, frz_str, frz_obj, startN, wipeD, List.map_cons, List.map_nil, List.length_cons, List.length_nil, Nat.zero_add, Nat.sub_self, Nat.reduceAdd, Nat.reduceSub, List.replicate_succ, List.replicate_zero, List.cons_append, List.nil_append, List.append_nil, List.getElem?_cons_zero, List.getElem?_cons_succ, List.set_cons_zero, List.set_cons_succ, Option.some.injEq, exists_eq_left', DEnds.xd, atI_0, atI_1, atI_2, atI_3, atI_4, atI_5, atI_6, atI_7, ixN_50, ixN_51, ixN_52, ixN_53, ixN_54, ixN_30, ixN_31, ixN_32, put_same, put_put, true_and, and_true, decide_true, decide_false, Bool.not_true, Bool.not_false, Bool.false_eq_true, if_true, if_false, decide_eq_true_eq, Bool.not_eq_true', decide_eq_false_iff_not, mem_one, ex_one, and_self]
    refine frz_new hp ⟨_, rfl, fun q hq => ?_, by have := runsF_len xs; omega, h⟩
    have := cnt_le xs q hq
    omega
end Lw

namespace Lw
open PySem PySem.Spec PyProof.Rows L2 VD
theorem cut_last {α : Type} (xs : List α) (x : α) : VD.cutD (xs ++ [x]) (some (-1)) none = [x] := by
  unfold VD.cutD
  have e : HT.sIx (xs ++ [x]).length 0 (some (-1)) = xs.length := by
    show (if (-1 : Int) < 0 then (-1 + ((xs ++ [x]).length : Int)).toNat else min (-1 : Int).toNat (xs ++ [x]).length) = _
    rw [if_pos (by decide), List.length_append, List.length_singleton]
    omega
  rw [e, HT.sIx_none, List.drop_left, List.length_append, List.length_singleton, Nat.add_sub_cancel_left]
  rfl
theorem cut_last0 {α : Type} : VD.cutD ([] : List α) (some (-1)) none = [] := by
  unfold VD.cutD
  simp
theorem last_one (found : List Int) : ∃ L : List Int, VD.cutD (List.map Dv.int found) (some (-1)) none = List.map Dv.int L ∧ ∀ v, (L = [v] ↔ found.getLast? = some v) := by
  rcases List.eq_nil_or_concat found with e | ⟨L, w, e⟩
  · subst e
    exact ⟨[], cut_last0, fun v => by simp⟩
  · subst e
    refine ⟨[w], by rw [List.concat_eq_append, List.map_append]; exact cut_last _ _, fun v => by simp⟩
def toldD (t : Told) : Dv := match t with
  | .error pl => .tup [.non, .int 0, .int pl]
  | .ok (ys, b) => .tup [.tup (List.map Dv.int ys), .int (b : Nat), .int (-1)]
def sp__law_parsed (A : Ad) : SpD := fun ds S Q _ => ∃ (xs : List Int) (i : Nat), ds = [.tup (List.map Dv.int xs), .int i] ∧ rowOk xs ∧ i ≤ xs.length ∧ Q (toldD (parse xs i)) S
theorem len__law_parsed (A : Ad) : ∀ ds S Q X, sp__law_parsed A ds S Q X → ds.length = 2 := by rintro _ _ _ _ ⟨_, _, rfl, _⟩; rfl
def r__law_parsed (A : Ad) : DS := (dSeq (dAsg (dCall (sp__law_read A) (dCons (dVar 0) (dCons (dVar 1) dNil))) (gN 2))
    (dSeq (dIfS (dTest (dOp (rdIsN fun b => b) (dVar 2) (dC .non))) (dRet (dTup (dCons (dC .non) (dCons (dC (.int 0)) (dCons (dVar 1) dNil))))) dNext)
    (dSeq (dAsg (dOp rdIx (dVar 2) (dC (.int 1))) (gN 3))
    (dSeq (dAsg (dLst dNil) (gN 4))
    (dSeq (dFor (iR1 (dCons (dCB rdMinL (dCons (dOp rdIx (dVar 2) (dC (.int 0))) (dCons (dOp rdAddV (dCB rdLen (dCons (dVar 0) dNil)) (dC (.int 1))) dNil))) dNil)) (gN 5) (dSeq (dIfS (dTest (dOp rdGe (dVar 3) (dCB rdLen (dCons (dVar 0) dNil)))) (dRet (dTup (dCons (dC .non) (dCons (dC (.int 0)) (dCons (dVar 3) dNil))))) dNext)
    (dSeq (dAsg (dCall (sp__law_read A) (dCons (dVar 0) (dCons (dOp rdAddV (dVar 3) (dC (.int 1))) dNil))) (gN 6))
    (dSeq (dIfS (dTest (dOp (rdIsN fun b => b) (dVar 6) (dC .non))) (dRet (dTup (dCons (dC .non) (dCons (dC (.int 0)) (dCons (dOp rdAddV (dVar 3) (dC (.int 1))) dNil))))) dNext)
    (dSeq (dIfS (dOrT (dTest (dOp rdEq (dOp rdIx (dVar 6) (dC (.int 0))) (dC (.int 0)))) (dOrT (dTest (dOp rdGt (dOp rdAddV (dCB rdLen (dCons (dVar 4) dNil)) (dOp rdIx (dVar 6) (dC (.int 0)))) (dC (.int 100000)))) (dTest (dOp rdEq (dSlV (dVar 4) (oSome (dNeg (dC (.int 1)))) oNone) (dLstV (dCons (dOp rdIx (dVar 0) (dVar 3)) dNil)))))) (dRet (dTup (dCons (dC .non) (dCons (dC (.int 0)) (dCons (dVar 3) dNil))))) dNext)
    (dSeq (dDrop (dBM rdExt (dVar 4) (dCons (dOp rdMulV (dLstV (dCons (dOp rdIx (dVar 0) (dVar 3)) dNil)) (dOp rdIx (dVar 6) (dC (.int 0)))) dNil)))
    (dAsg (dOp rdIx (dVar 6) (dC (.int 1))) (gN 3))))))))
    (dRet (dTup (dCons (dCB rdTuple (dCons (dVar 4) dNil)) (dCons (dVar 3) (dCons (dNeg (dC (.int 1))) dNil))))))))))
theorem rd__law_parsed (A : Ad) : RdF (r__law_parsed A) 7 (sp__law_parsed A) := by
  rintro ds S Q X ⟨xs, i, rfl, hr, hi, h⟩
  unfold r__law_parsed
  simp only [dSeq, dAsg, dRet, dRetN, dDrop, dRaise, dBreak, dCont, dPar, dAug, dFor, dNext, dSetF, dAugF, dRaiseF, dIfS, dTest, dOp, dVar, dC, dCB, dCons, dNil, dCall, dAndV, dOrV, dNotV, dAndT, dOrT, dNotT, dIf, dTup, dLst, dLstV, dSl, dSlV, rdSlV, oSome, oNone, dNeg, gN, gT, gConsD, gNilD, gSubD, gFldD, dChain, dLc, dBM, isLst, iSeqD, iR1, iR2, iR3, dYes, rdAddV, rdMulV, rdSub, rdDiv, rdMod, rdPow, rdIAdd, rdCmp, rdIsN, isn_non, isn_bl, isn_int, isn_str, isn_ref, isn_tup, isn_rol, isn_obj, rdEqG, rdIx_tup, rdIx_rol, rdIx_put, rdSet, rdLen_tup, rdLen_rol, rdLen_str, rdLen_put, rdInt1, rdInt, rdInt2, rdAppend, rdExt, rdPopAt, rdMaxL, rdMinL, rdListV, rdIsB, isBlV, rdStrI, rdIntS, dFrz, dFld, insOf_put, dMeth, lstOf_rol, lstOf_put, seqOf_tup, seqOf_rol, seqOf_put, frz_tup, frz_rol, frz_int, frz_bl, frz_non, frz_str, frz_obj, startN, wipeD, List.map_cons, List.map_nil, List.length_cons, List.length_nil, Nat.zero_add, Nat.sub_self, Nat.reduceAdd, Nat.reduceSub, List.replicate_succ, List.replicate_zero, List.cons_append, List.nil_append, List.append_nil, List.getElem?_cons_zero, List.getElem?_cons_succ, List.set_cons_zero, List.set_cons_succ, Option.some.injEq, exists_eq_left', DEnds.xd, atI_0, atI_1, atI_2, atI_3, atI_4, atI_5, atI_6, atI_7, ixN_50, ixN_51, ixN_52, ixN_53, ixN_54, ixN_30, ixN_31, ixN_32, put_same, put_put, true_and, and_true, decide_true, decide_false, Bool.not_true, Bool.not_false, Bool.false_eq_true, if_true, if_false, decide_eq_true_eq, Bool.not_eq_true', decide_eq_false_iff_not, mem_one, ex_one, and_self]
  refine ⟨xs, i, rfl, hr, hi, ?_⟩
  cases e1 : readO xs i with
  | none =>
    have : parse xs i = .error (i : Int) := by unfold parse; rw [e1]
    rw [this] at h
    unfold numD
    simp only [dSeq, dAsg, dRet, dRetN, dDrop, dRaise, dBreak, dCont, dPar, dAug, dFor, dNext, dSetF, dAugF, dRaiseF, dIfS, dTest, dOp, dVar, dC, dCB, dCons, dNil, dCall, dAndV, dOrV, dNotV, dAndT, dOrT, dNotT, dIf, dTup, dLst, dLstV, dSl, dSlV, rdSlV, oSome, oNone, dNeg, gN, gT, gConsD, gNilD, gSubD, gFldD, dChain, dLc, dBM, isLst, iSeqD, iR1, iR2, iR3, dYes, rdAddV, rdMulV, rdSub, rdDiv, rdMod, rdPow, rdIAdd, rdCmp, rdIsN, isn_non, isn_bl, isn_int, isn_str, isn_ref, isn_tup, isn_rol, isn_obj, rdEqG, rdIx_tup, rdIx_rol, rdIx_put, rdSet, rdLen_tup, rdLen_rol, rdLen_str, rdLen_put, rdInt1, rdInt, rdInt2, rdAppend, rdExt, rdPopAt, rdMaxL, rdMinL, rdListV, rdIsB, isBlV, rdStrI, rdIntS, dFrz, dFld, insOf_put, dMeth, lstOf_rol, lstOf_put, seqOf_tup, seqOf_rol, seqOf_put, frz_tup, frz_rol, frz_int, frz_bl, frz_non, frz_str, frz_obj, startN, wipeD, List.map_cons, List.map_nil, List.length_cons, List.length_nil, Nat.zero_add, Nat.sub_self, Nat.reduceAdd, Nat.reduceSub, List.replicate_succ, List.replicate_zero, List.cons_append, List.nil_append, List.append_nil, List.getElem?_cons_zero, List.getElem?_cons_succ, List.set_cons_zero, List.set_cons_succ, Option.some.injEq, exists_eq_left', DEnds.xd, atI_0, atI_1, atI_2, atI_3, atI_4, atI_5, atI_6, atI_7, ixN_50, ixN_51, ixN_52, ixN_53, ixN_54, ixN_30, ixN_31, ixN_32, put_same, put_put, true_and, and_true, decide_true, decide_false, Bool.not_true, Bool.not_false, Bool.false_eq_true, if_true, if_false, decide_eq_true_eq, Bool.not_eq_true', decide_eq_false_iff_not, mem_one, ex_one, and_self]
    exact ⟨slK, S, Sub.refl S, h⟩
  | some q =>
    obtain ⟨n, b0⟩ := q
    obtain ⟨n0, n1, n2, n3⟩ := readO_ok e1
    have ep : parse xs i = parseR n.toNat xs b0 [] := by unfold parse; rw [e1]
    unfold numD
    simp only [dSeq, dAsg, dRet, dRetN, dDrop, dRaise, dBreak, dCont, dPar, dAug, dFor, dNext, dSetF, dAugF, dRaiseF, dIfS, dTest, dOp, dVar, dC, dCB, dCons, dNil, dCall, dAndV, dOrV, dNotV, dAndT, dOrT, dNotT, dIf, dTup, dLst, dLstV, dSl, dSlV, rdSlV, oSome, oNone, dNeg, gN, gT, gConsD, gNilD, gSubD, gFldD, dChain, dLc, dBM, isLst, iSeqD, iR1, iR2, iR3, dYes, rdAddV, rdMulV, rdSub, rdDiv, rdMod, rdPow, rdIAdd, rdCmp, rdIsN, isn_non, isn_bl, isn_int, isn_str, isn_ref, isn_tup, isn_rol, isn_obj, rdEqG, rdIx_tup, rdIx_rol, rdIx_put, rdSet, rdLen_tup, rdLen_rol, rdLen_str, rdLen_put, rdInt1, rdInt, rdInt2, rdAppend, rdExt, rdPopAt, rdMaxL, rdMinL, rdListV, rdIsB, isBlV, rdStrI, rdIntS, dFrz, dFld, insOf_put, dMeth, lstOf_rol, lstOf_put, seqOf_tup, seqOf_rol, seqOf_put, frz_tup, frz_rol, frz_int, frz_bl, frz_non, frz_str, frz_obj, startN, wipeD, List.map_cons, List.map_nil, List.length_cons, List.length_nil, Nat.zero_add, Nat.sub_self, Nat.reduceAdd, Nat.reduceSub, List.replicate_succ, List.replicate_zero, List.cons_append, List.nil_append, List.append_nil, List.getElem?_cons_zero, List.getElem?_cons_succ, List.set_cons_zero, List.set_cons_succ, Option.some.injEq, exists_eq_left', DEnds.xd, atI_0, atI_1, atI_2, atI_3, atI_4, atI_5, atI_6, atI_7, ixN_50, ixN_51, ixN_52, ixN_53, ixN_54, ixN_30, ixN_31, ixN_32, put_same, put_put, true_and, and_true, decide_true, decide_false, Bool.not_true, Bool.not_false, Bool.false_eq_true, if_true, if_false, decide_eq_true_eq, Bool.not_eq_true', decide_eq_false_iff_not, mem_one, ex_one, and_self]
    refine ⟨slK, fun p hp => ?_⟩
    have bad : ∀ (pl : Int) (L : MO), parse xs i = .error pl → ∃ T, VD.Sub T (put S p L) ∧ Q (.tup [.non, .int 0, .int pl]) T := by
      intro pl L e
      rw [e] at h
      exact ⟨S, Sub.new hp, h⟩
    generalize hK : (if ((List.map Dv.int xs).length : Int) + 1 < n then ((List.map Dv.int xs).length : Int) + 1 else n).toNat = K
    have hK2 : K ≤ n.toNat ∧ (K = n.toNat ∨ xs.length < K) := by
      rw [List.length_map] at hK
      split at hK <;> omega
    clear hK
    refine for_go (fun j ρ T => ∃ (here : Nat) (found : List Int) (y2 y3 y4 : _), T = put S p (.lst (List.map Dv.int found)) ∧ here ≤ xs.length ∧ j ≤ here ∧ parse xs i = parseR (n.toNat - j) xs here found ∧ found.length ≤ 100000 ∧
      ρ = [some (.tup (List.map Dv.int xs)), some (.int i), y2, some (.int here), some (.ref p), y3, y4]) ⟨b0, [], _, _, _, rfl, n3, by omega, by rw [ep]; rfl, by simp, rfl⟩ (fun _ _ _ _ _ => trivial) (fun j z ρ T hz hw => ?_) fun ρ T hw => ?_
    · obtain ⟨here, found, y2, y3, y4, rfl, hh, hjh, hq, hf, rfl⟩ := hw
      have hj := (rangeL_mem hz).1
      obtain ⟨k, hk⟩ : ∃ k, n.toNat - j = k + 1 := ⟨n.toNat - j - 1, by omega⟩
      rw [hk] at hq
      unfold parseR at hq
      simp only [dSeq, dAsg, dRet, dRetN, dDrop, dRaise, dBreak, dCont, dPar, dAug, dFor, dNext, dSetF, dAugF, dRaiseF, dIfS, dTest, dOp, dVar, dC, dCB, dCons, dNil, dCall, dAndV, dOrV, dNotV, dAndT, dOrT, dNotT, dIf, dTup, dLst, dLstV, dSl, dSlV, rdSlV, oSome, oNone, dNeg, gN, gT, gConsD, gNilD, gSubD, gFldD, dChain, dLc, dBM, isLst, iSeqD, iR1, iR2, iR3, dYes, rdAddV, rdMulV, rdSub, rdDiv, rdMod, rdPow, rdIAdd, rdCmp, rdIsN, isn_non, isn_bl, isn_int, isn_str, isn_ref, isn_tup, isn_rol, isn_obj, rdEqG, rdIx_tup, rdIx_rol, rdIx_put, rdSet, rdLen_tup, rdLen_rol, rdLen_str, rdLen_put, rdInt1, rdInt, rdInt2, rdAppend, rdExt, rdPopAt, rdMaxL, rdMinL, rdListV, rdIsB, isBlV, rdStrI, rdIntS, dFrz, dFld, insOf_put, dMeth, lstOf_rol, lstOf_put, seqOf_tup, seqOf_rol, seqOf_put, frz_tup, frz_rol, frz_int, frz_bl, frz_non, frz_str, frz_obj, startN, wipeD, List.map_cons, List.map_nil, List.length_cons, List.length_nil, Nat.zero_add, Nat.sub_self, Nat.reduceAdd, Nat.reduceSub, List.replicate_succ, List.replicate_zero, List.cons_append, List.nil_append, List.append_nil, List.getElem?_cons_zero, List.getElem?_cons_succ, List.set_cons_zero, List.set_cons_succ, Option.some.injEq, exists_eq_left', DEnds.xd, atI_0, atI_1, atI_2, atI_3, atI_4, atI_5, atI_6, atI_7, ixN_50, ixN_51, ixN_52, ixN_53, ixN_54, ixN_30, ixN_31, ixN_32, put_same, put_put, true_and, and_true, decide_true, decide_false, Bool.not_true, Bool.not_false, Bool.false_eq_true, if_true, if_false, decide_eq_true_eq, Bool.not_eq_true', decide_eq_false_iff_not, mem_one, ex_one, and_self]
      rw [List.length_map]
      cases e2 : xs[here]? with
      | none =>
        rw [e2] at hq
        have := List.getElem?_eq_none_iff.mp e2
        rw [if_pos (by omega)]
        exact ⟨slK, bad _ _ hq⟩
      | some v =>
        rw [e2] at hq
        have hlt := (List.getElem?_eq_some_iff.mp e2).1
        have ath := atI_ints e2
        rw [if_neg (by omega)]
        dsimp only at hq ⊢
        refine ⟨xs, here + 1, rfl, hr, by omega, ?_⟩
        cases e3 : readO xs (here + 1) with
        | none =>
          rw [e3] at hq
          unfold numD
          simp only [dSeq, dAsg, dRet, dRetN, dDrop, dRaise, dBreak, dCont, dPar, dAug, dFor, dNext, dSetF, dAugF, dRaiseF, dIfS, dTest, dOp, dVar, dC, dCB, dCons, dNil, dCall, dAndV, dOrV, dNotV, dAndT, dOrT, dNotT, dIf, dTup, dLst, dLstV, dSl, dSlV, rdSlV, oSome, oNone, dNeg, gN, gT, gConsD, gNilD, gSubD, gFldD, dChain, dLc, dBM, isLst, iSeqD, iR1, iR2, iR3, dYes, rdAddV, rdMulV, rdSub, rdDiv, rdMod, rdPow, rdIAdd, rdCmp, rdIsN, isn_non, isn_bl, isn_int, isn_str, isn_ref, isn_tup, isn_rol, isn_obj, rdEqG, rdIx_tup, rdIx_rol, rdIx_put, rdSet, rdLen_tup, rdLen_rol, rdLen_str, rdLen_put, rdInt1, rdInt, rdInt2, rdAppend, rdExt, rdPopAt, rdMaxL, rdMinL, rdListV, rdIsB, isBlV, rdStrI, rdIntS, dFrz, dFld, insOf_put, dMeth, lstOf_rol, lstOf_put, seqOf_tup, seqOf_rol, seqOf_put, frz_tup, frz_rol, frz_int, frz_bl, frz_non, frz_str, frz_obj, startN, wipeD, List.map_cons, List.map_nil, List.length_cons, List.length_nil, Nat.zero_add, Nat.sub_self, Nat.reduceAdd, Nat.reduceSub, List.replicate_succ, List.replicate_zero, List.cons_append, List.nil_append, List.append_nil, List.getElem?_cons_zero, List.getElem?_cons_succ, List.set_cons_zero, List.set_cons_succ, Option.some.injEq, exists_eq_left', DEnds.xd, atI_0, atI_1, atI_2, atI_3, atI_4, atI_5, atI_6, atI_7, ixN_50, ixN_51, ixN_52, ixN_53, ixN_54, ixN_30, ixN_31, ixN_32, put_same, put_put, true_and, and_true, decide_true, decide_false, Bool.not_true, Bool.not_false, Bool.false_eq_true, if_true, if_false, decide_eq_true_eq, Bool.not_eq_true', decide_eq_false_iff_not, mem_one, ex_one, and_self]
          exact ⟨slK, bad _ _ hq⟩
        | some q =>
          obtain ⟨m, b⟩ := q
          obtain ⟨m0, m1, m2, m3⟩ := readO_ok e3
          rw [e3] at hq
          dsimp only at hq ⊢
          unfold numD
          simp only [dSeq, dAsg, dRet, dRetN, dDrop, dRaise, dBreak, dCont, dPar, dAug, dFor, dNext, dSetF, dAugF, dRaiseF, dIfS, dTest, dOp, dVar, dC, dCB, dCons, dNil, dCall, dAndV, dOrV, dNotV, dAndT, dOrT, dNotT, dIf, dTup, dLst, dLstV, dSl, dSlV, rdSlV, oSome, oNone, dNeg, gN, gT, gConsD, gNilD, gSubD, gFldD, dChain, dLc, dBM, isLst, iSeqD, iR1, iR2, iR3, dYes, rdAddV, rdMulV, rdSub, rdDiv, rdMod, rdPow, rdIAdd, rdCmp, rdIsN, isn_non, isn_bl, isn_int, isn_str, isn_ref, isn_tup, isn_rol, isn_obj, rdEqG, rdIx_tup, rdIx_rol, rdIx_put, rdSet, rdLen_tup, rdLen_rol, rdLen_str, rdLen_put, rdInt1, rdInt, rdInt2, rdAppend, rdExt, rdPopAt, rdMaxL, rdMinL, rdListV, rdIsB, isBlV, rdStrI, rdIntS, dFrz, dFld, insOf_put, dMeth, lstOf_rol, lstOf_put, seqOf_tup, seqOf_rol, seqOf_put, frz_tup, frz_rol, frz_int, frz_bl, frz_non, frz_str, frz_obj, startN, wipeD, List.map_cons, List.map_nil, List.length_cons, List.length_nil, Nat.zero_add, Nat.sub_self, Nat.reduceAdd, Nat.reduceSub, List.replicate_succ, List.replicate_zero, List.cons_append, List.nil_append, List.append_nil, List.getElem?_cons_zero, List.getElem?_cons_succ, List.set_cons_zero, List.set_cons_succ, Option.some.injEq, exists_eq_left', DEnds.xd, atI_0, atI_1, atI_2, atI_3, atI_4, atI_5, atI_6, atI_7, ixN_50, ixN_51, ixN_52, ixN_53, ixN_54, ixN_30, ixN_31, ixN_32, put_same, put_put, true_and, and_true, decide_true, decide_false, Bool.not_true, Bool.not_false, Bool.false_eq_true, if_true, if_false, decide_eq_true_eq, Bool.not_eq_true', decide_eq_false_iff_not, mem_one, ex_one, and_self]
          have two : ∀ hh : badRun found m v, 3 ≤ sizeLine ∧ ∃ T, VD.Sub T (put S p (MO.lst (List.map Dv.int found))) ∧ Q (Dv.tup [Dv.non, Dv.int 0, Dv.int ↑here]) T := fun hh => by
            rw [if_pos hh] at hq
            exact ⟨slK, bad _ _ hq⟩
          rw [List.length_map]
          by_cases c1 : m = 0
          · rw [if_pos c1]; exact two (.inl c1)
          rw [if_neg c1]
          by_cases c2 : 100000 < (found.length : Int) + m
          · rw [if_pos c2]; exact two (.inr (.inl c2))
          rw [if_neg c2]
          obtain ⟨L, hL, hLv⟩ := last_one found
          have ev : eqvD (.rol (List.map Dv.int L)) (.rol [.int v]) = decide (L = [v]) := eqv_dec (n := 2) clean_intsL (clean_intsL (ns := [v])) (by
            rw [Dv.rol.injEq]
            exact ints_inj (ys := [v]))
          refine ⟨_, ath, slK, ?_⟩
          unfold VD.valOf
          dsimp only
          rw [hL, ev]
          refine ⟨⟨shp_clean (n := 2) clean_intsL, shp_clean (n := 2) (clean_intsL (ns := [v]))⟩, ?_⟩
          simp only [decide_eq_true_eq]
          by_cases c3 : L = [v]
          · rw [if_pos c3]; exact two (.inr (.inr ((hLv v).mp c3)))
          rw [if_neg c3]
          have hb : ¬ badRun found m v := by
            rintro (z | z | z)
            · exact c1 z
            · exact c2 z
            · exact c3 ((hLv v).mpr z)
          rw [if_neg hb] at hq
          refine ⟨_, ath, slK, ⟨⟨by omega, by omega⟩, by rw [sizeLine_eq]; omega⟩, ?_, b, found ++ List.replicate m.toNat v, _, _, _, ?_, m3, by omega, by rw [hq, show n.toNat - (j + 1) = k by omega], by simp; omega, rfl⟩
          · rw [flat_one, sizeLine_eq]
            simp only [List.length_map, List.length_replicate]
            omega
          · rw [flat_one, List.map_append, List.map_replicate]
    · obtain ⟨here, found, y2, y3, y4, rfl, hh, hjh, hq, hf, rfl⟩ := hw
      rw [rangeL_len] at hq hjh
      have : K = n.toNat := by omega
      rw [this, Nat.sub_self] at hq
      rw [hq] at h
      simp only [dSeq, dAsg, dRet, dRetN, dDrop, dRaise, dBreak, dCont, dPar, dAug, dFor, dNext, dSetF, dAugF, dRaiseF, dIfS, dTest, dOp, dVar, dC, dCB, dCons, dNil, dCall, dAndV, dOrV, dNotV, dAndT, dOrT, dNotT, dIf, dTup, dLst, dLstV, dSl, dSlV, rdSlV, oSome, oNone, dNeg, gN, gT, gConsD, gNilD, gSubD, gFldD, dChain, dLc, dBM, isLst, iSeqD, iR1, iR2, iR3, dYes, rdAddV, rdMulV, rdSub, rdDiv, rdMod, rdPow, rdIAdd, rdCmp, rdIsN, isn_non, isn_bl, isn_int, isn_str, isn_ref, isn_tup, isn_rol, isn_obj, rdEqG, rdIx_tup, rdIx_rol, rdIx_put, rdSet, rdLen_tup, rdLen_rol, rdLen_str, rdLen_put, rdInt1, rdInt, rdInt2, rdAppend, rdExt, rdPopAt, rdMaxL, rdMinL, rdListV, rdIsB, isBlV, rdStrI, rdIntS, dFrz, dFld, insOf_put, dMeth, lstOf_rol, lstOf_put, seqOf_tup, seqOf_rol, seqOf_put, frz_tup, frz_rol, frz_int, frz_bl, frz_non, frz_str, frz_obj, startN, wipeD, List.map_cons, List.map_nil, List.length_cons, List.length_nil, Nat.zero_add, Nat.sub_self, Nat.reduceAdd, Nat.reduceSub, List.replicate_succ, List.replicate_zero, List.cons_append, List.nil_append, List.append_nil, List.getElem?_cons_zero, List.getElem?_cons_succ, List.set_cons_zero, List.set_cons_succ, Option.some.injEq, exists_eq_left', DEnds.xd, atI_0, atI_1, atI_2, atI_3, atI_4, atI_5, atI_6, atI_7, ixN_50, ixN_51, ixN_52, ixN_53, ixN_54, ixN_30, ixN_31, ixN_32, put_same, put_put, true_and, and_true, decide_true, decide_false, Bool.not_true, Bool.not_false, Bool.false_eq_true, if_true, if_false, decide_eq_true_eq, Bool.not_eq_true', decide_eq_false_iff_not, mem_one, ex_one, and_self]
      unfold rdTuple
      simp only [dSeq, dAsg, dRet, dRetN, dDrop, dRaise, dBreak, dCont, dPar, dAug, dFor, dNext, dSetF, dAugF, dRaiseF, dIfS, dTest, dOp, dVar, dC, dCB, dCons, dNil, dCall, dAndV, dOrV, dNotV, dAndT, dOrT, dNotT, dIf, dTup, dLst, dLstV, dSl, dSlV, rdSlV, oSome, oNone, dNeg, gN, gT, gConsD, gNilD, gSubD, gFldD, dChain, dLc, dBM, isLst, iSeqD, iR1, iR2, iR3, dYes, rdAddV, rdMulV, rdSub, rdDiv, rdMod, rdPow, rdIAdd, rdCmp, rdIsN, isn_non, isn_bl, isn_int, isn_str, isn_ref, isn_tup, isn_rol, isn_obj, rdEqG, rdIx_tup, rdIx_rol, rdIx_put, rdSet, rdLen_tup, rdLen_rol, rdLen_str, rdLen_put, rdInt1, rdInt, rdInt2, rdAppend, rdExt, rdPopAt, rdMaxL, rdMinL, rdListV, rdIsB, isBlV, rdStrI, rdIntS, dFrz, dFld, insOf_put, dMeth, lstOf_rol, lstOf_put, seqOf_tup, seqOf_rol, seqOf_put, frz_tup, frz_rol, frz_int, frz_bl, frz_non, frz_str, frz_obj, startN, wipeD, List.map_cons, List.map_nil, List.length_cons, List.length_nil, Nat.zero_add, Nat.sub_self, Nat.reduceAdd, Nat.reduceSub, List.replicate_succ, List.replicate_zero, List.cons_append, List.nil_append, List.append_nil, List.getElem?_cons_zero, List.getElem?_cons_succ, List.set_cons_zero, List.set_cons_succ, Option.some.injEq, exists_eq_left', DEnds.xd, atI_0, atI_1, atI_2, atI_3, atI_4, atI_5, atI_6, atI_7, ixN_50, ixN_51, ixN_52, ixN_53, ixN_54, ixN_30, ixN_31, ixN_32, put_same, put_put, true_and, and_true, decide_true, decide_false, Bool.not_true, Bool.not_false, Bool.false_eq_true, if_true, if_false, decide_eq_true_eq, Bool.not_eq_true', decide_eq_false_iff_not, mem_one, ex_one, and_self]
      exact ⟨S, Sub.new hp, slK, S, Sub.refl S, h⟩
def rtD (t : Told) : Dv := match t with
  | .error pl => .tup [.str (Str.ofString "bad"), .int pl]
  | .ok (ys, b) => .tup [.str (Str.ofString "told"), .tup [.tup (List.map Dv.int ys), .int (b : Nat)]]
def sp__law_read_told (A : Ad) : SpD := fun ds S Q _ => ∃ (xs : List Int) (i : Nat), ds = [.tup (List.map Dv.int xs), .int i] ∧ rowOk xs ∧ i ≤ xs.length ∧ Q (rtD (parse xs i)) S
theorem len__law_read_told (A : Ad) : ∀ ds S Q X, sp__law_read_told A ds S Q X → ds.length = 2 := by rintro _ _ _ _ ⟨_, _, rfl, _⟩; rfl
def r__law_read_told (A : Ad) : DS := (dTake (dRet (dTup (dCons (dC (.str (Str.ofString "told"))) (dCons (dCall (sp_read_inputs A) (dCons (dVar 0) (dCons (dVar 1) dNil))) dNil)))) 2 [(.ref A.NoRow, false), (.ref A.NoPlace, false), (.ref A.BadRow, true)] fun ea ecls eda => (dRet (dTup (dCons (dC (.str (Str.ofString "bad"))) (dCons (dXf ea ecls eda A.BadRow (Str.ofString "place") (dVar 2)) dNil)))))
theorem rd__law_read_told (A : Ad) : RdF (r__law_read_told A) 3 (sp__law_read_told A) := by
  rintro ds S Q X ⟨xs, i, rfl, hr, hi, h⟩
  unfold r__law_read_told dTake
  simp only [dSeq, dAsg, dRet, dRetN, dDrop, dRaise, dBreak, dCont, dPar, dAug, dFor, dNext, dSetF, dAugF, dRaiseF, dIfS, dTest, dOp, dVar, dC, dCB, dCons, dNil, dCall, dAndV, dOrV, dNotV, dAndT, dOrT, dNotT, dIf, dTup, dLst, dLstV, dSl, dSlV, rdSlV, oSome, oNone, dNeg, gN, gT, gConsD, gNilD, gSubD, gFldD, dChain, dLc, dBM, isLst, iSeqD, iR1, iR2, iR3, dYes, rdAddV, rdMulV, rdSub, rdDiv, rdMod, rdPow, rdIAdd, rdCmp, rdIsN, isn_non, isn_bl, isn_int, isn_str, isn_ref, isn_tup, isn_rol, isn_obj, rdEqG, rdIx_tup, rdIx_rol, rdIx_put, rdSet, rdLen_tup, rdLen_rol, rdLen_str, rdLen_put, rdInt1, rdInt, rdInt2, rdAppend, rdExt, rdPopAt, rdMaxL, rdMinL, rdListV, rdIsB, isBlV, rdStrI, rdIntS, dFrz, dFld, insOf_put, dMeth, lstOf_rol, lstOf_put, seqOf_tup, seqOf_rol, seqOf_put, frz_tup, frz_rol, frz_int, frz_bl, frz_non, frz_str, frz_obj, startN, wipeD, List.map_cons, List.map_nil, List.length_cons, List.length_nil, Nat.zero_add, Nat.sub_self, Nat.reduceAdd, Nat.reduceSub, List.replicate_succ, List.replicate_zero, List.cons_append, List.nil_append, List.append_nil, List.getElem?_cons_zero, List.getElem?_cons_succ, List.set_cons_zero, List.set_cons_succ, Option.some.injEq, exists_eq_left', DEnds.xd, atI_0, atI_1, atI_2, atI_3, atI_4, atI_5, atI_6, atI_7, ixN_50, ixN_51, ixN_52, ixN_53, ixN_54, ixN_30, ixN_31, ixN_32, put_same, put_put, true_and, and_true, decide_true, decide_false, Bool.not_true, Bool.not_false, Bool.false_eq_true, if_true, if_false, decide_eq_true_eq, Bool.not_eq_true', decide_eq_false_iff_not, mem_one, ex_one, and_self]
  refine ⟨xs, i, rfl, hr, hi, ?_⟩
  cases e : parse xs i with
  | error pl =>
    rw [e] at h
    intro d hd
    unfold exTake dXf
    refine ⟨by simp, fun a ha => ?_⟩
    simp only [dSeq, dAsg, dRet, dRetN, dDrop, dRaise, dBreak, dCont, dPar, dAug, dFor, dNext, dSetF, dAugF, dRaiseF, dIfS, dTest, dOp, dVar, dC, dCB, dCons, dNil, dCall, dAndV, dOrV, dNotV, dAndT, dOrT, dNotT, dIf, dTup, dLst, dLstV, dSl, dSlV, rdSlV, oSome, oNone, dNeg, gN, gT, gConsD, gNilD, gSubD, gFldD, dChain, dLc, dBM, isLst, iSeqD, iR1, iR2, iR3, dYes, rdAddV, rdMulV, rdSub, rdDiv, rdMod, rdPow, rdIAdd, rdCmp, rdIsN, isn_non, isn_bl, isn_int, isn_str, isn_ref, isn_tup, isn_rol, isn_obj, rdEqG, rdIx_tup, rdIx_rol, rdIx_put, rdSet, rdLen_tup, rdLen_rol, rdLen_str, rdLen_put, rdInt1, rdInt, rdInt2, rdAppend, rdExt, rdPopAt, rdMaxL, rdMinL, rdListV, rdIsB, isBlV, rdStrI, rdIntS, dFrz, dFld, insOf_put, dMeth, lstOf_rol, lstOf_put, seqOf_tup, seqOf_rol, seqOf_put, frz_tup, frz_rol, frz_int, frz_bl, frz_non, frz_str, frz_obj, startN, wipeD, List.map_cons, List.map_nil, List.length_cons, List.length_nil, Nat.zero_add, Nat.sub_self, Nat.reduceAdd, Nat.reduceSub, List.replicate_succ, List.replicate_zero, List.cons_append, List.nil_append, List.append_nil, List.getElem?_cons_zero, List.getElem?_cons_succ, List.set_cons_zero, List.set_cons_succ, Option.some.injEq, exists_eq_left', DEnds.xd, atI_0, atI_1, atI_2, atI_3, atI_4, atI_5, atI_6, atI_7, ixN_50, ixN_51, ixN_52, ixN_53, ixN_54, ixN_30, ixN_31, ixN_32, put_same, put_put, true_and, and_true, decide_true, decide_false, Bool.not_true, Bool.not_false, Bool.false_eq_true, if_true, if_false, decide_eq_true_eq, Bool.not_eq_true', decide_eq_false_iff_not, mem_one, ex_one, and_self]
    exact ⟨d, _, _, rfl, put_same, by rw [List.lookup_cons, beq_self_eq_true], slK, S, Sub.new hd, h⟩
  | ok q =>
    obtain ⟨ys, b⟩ := q
    rw [e] at h
    dsimp only
    exact ⟨slK, S, Sub.refl S, h⟩
end Lw

namespace Lw
open PySem PySem.Spec PyProof.Rows L2 VD
theorem cut_mid {xs : List Int} {i b : Nat} (h : i ≤ b) (h2 : b ≤ xs.length) : VD.cutD (List.map Dv.int xs) (some (i : Int)) (some (b : Int)) = List.map Dv.int ((xs.drop i).take (b - i)) := by
  unfold VD.cutD
  rw [HT.sIx_nat, HT.sIx_nat, List.length_map, List.map_take, List.map_drop]
  rw [Nat.min_eq_left (by omega), Nat.min_eq_left (by omega)]
def sp__law_is_told (A : Ad) : SpD := fun ds S Q _ => ∃ (xs : List Int) (i : Nat), ds = [.tup (List.map Dv.int xs), .int i] ∧ rowOk xs ∧ i ≤ xs.length ∧ Q (.bl true) S
theorem len__law_is_told (A : Ad) : ∀ ds S Q X, sp__law_is_told A ds S Q X → ds.length = 2 := by rintro _ _ _ _ ⟨_, _, rfl, _⟩; rfl
def r__law_is_told (A : Ad) : DS := (dSeq (dAsg (dCall (sp__law_parsed A) (dCons (dVar 0) (dCons (dVar 1) dNil))) (gT 3 (gConsD (gN 2) (gConsD (gN 3) (gConsD (gN 4) gNilD)))))
    (dSeq (dAsg (dCall (sp__law_read_told A) (dCons (dVar 0) (dCons (dVar 1) dNil))) (gN 5))
    (dSeq (dIfS (dTest (dOp (rdIsN fun b => b) (dVar 2) (dC .non))) (dRet (dCall (sp__law_is A 4) (dCons (dVar 5) (dCons (dTup (dCons (dC (.str (Str.ofString "bad"))) (dCons (dVar 4) dNil))) dNil)))) dNext)
    (dSeq (dIfS (dOrT (dNotT (dTest (dCB (rdIsi A.ot) (dCons (dOp rdIx (dVar 5) (dC (.int 1))) (dCons (dC (.ty "tuple")) dNil))))) (dTest (dOp rdNe (dVar 5) (dTup (dCons (dC (.str (Str.ofString "told"))) (dCons (dTup (dCons (dVar 2) (dCons (dVar 3) dNil))) dNil)))))) (dRet (dC (.bl false))) dNext)
    (dRet (dOp rdEq (dCall (sp_input_row A) (dCons (dVar 2) dNil)) (dSlV (dVar 0) (oSome (dVar 1)) (oSome (dVar 3)))))))))
theorem rd__law_is_told (A : Ad) : Rd (r__law_is_told A) 6 (sp__law_is_told A) := by
  rintro ds S Q X ⟨xs, i, rfl, hr, hi, h⟩
  unfold r__law_is_told
  simp only [dSeq, dAsg, dRet, dRetN, dDrop, dRaise, dBreak, dCont, dPar, dAug, dFor, dNext, dSetF, dAugF, dRaiseF, dIfS, dTest, dOp, dVar, dC, dCB, dCons, dNil, dCall, dAndV, dOrV, dNotV, dAndT, dOrT, dNotT, dIf, dTup, dLst, dLstV, dSl, dSlV, rdSlV, oSome, oNone, dNeg, gN, gT, gConsD, gNilD, gSubD, gFldD, dChain, dLc, dBM, isLst, iSeqD, iR1, iR2, iR3, dYes, rdAddV, rdMulV, rdSub, rdDiv, rdMod, rdPow, rdIAdd, rdCmp, rdIsN, isn_non, isn_bl, isn_int, isn_str, isn_ref, isn_tup, isn_rol, isn_obj, rdEqG, rdIx_tup, rdIx_rol, rdIx_put, rdSet, rdLen_tup, rdLen_rol, rdLen_str, rdLen_put, rdInt1, rdInt, rdInt2, rdAppend, rdExt, rdPopAt, rdMaxL, rdMinL, rdListV, rdIsB, isBlV, rdStrI, rdIntS, dFrz, dFld, insOf_put, dMeth, lstOf_rol, lstOf_put, seqOf_tup, seqOf_rol, seqOf_put, frz_tup, frz_rol, frz_int, frz_bl, frz_non, frz_str, frz_obj, startN, wipeD, List.map_cons, List.map_nil, List.length_cons, List.length_nil, Nat.zero_add, Nat.sub_self, Nat.reduceAdd, Nat.reduceSub, List.replicate_succ, List.replicate_zero, List.cons_append, List.nil_append, List.append_nil, List.getElem?_cons_zero, List.getElem?_cons_succ, List.set_cons_zero, List.set_cons_succ, Option.some.injEq, exists_eq_left', DEnds.xd, atI_0, atI_1, atI_2, atI_3, atI_4, atI_5, atI_6, atI_7, ixN_50, ixN_51, ixN_52, ixN_53, ixN_54, ixN_30, ixN_31, ixN_32, put_same, put_put, true_and, and_true, decide_true, decide_false, Bool.not_true, Bool.not_false, Bool.false_eq_true, if_true, if_false, decide_eq_true_eq, Bool.not_eq_true', decide_eq_false_iff_not, mem_one, ex_one, and_self]
  refine ⟨xs, i, rfl, hr, hi, ?_⟩
  cases e : parse xs i with
  | error pl =>
    unfold toldD
    simp only [dSeq, dAsg, dRet, dRetN, dDrop, dRaise, dBreak, dCont, dPar, dAug, dFor, dNext, dSetF, dAugF, dRaiseF, dIfS, dTest, dOp, dVar, dC, dCB, dCons, dNil, dCall, dAndV, dOrV, dNotV, dAndT, dOrT, dNotT, dIf, dTup, dLst, dLstV, dSl, dSlV, rdSlV, oSome, oNone, dNeg, gN, gT, gConsD, gNilD, gSubD, gFldD, dChain, dLc, dBM, isLst, iSeqD, iR1, iR2, iR3, dYes, rdAddV, rdMulV, rdSub, rdDiv, rdMod, rdPow, rdIAdd, rdCmp, rdIsN, isn_non, isn_bl, isn_int, isn_str, isn_ref, isn_tup, isn_rol, isn_obj, rdEqG, rdIx_tup, rdIx_rol, rdIx_put, rdSet, rdLen_tup, rdLen_rol, rdLen_str, rdLen_put, rdInt1, rdInt, rdInt2, rdAppend, rdExt, rdPopAt, rdMaxL, rdMinL, rdListV, rdIsB, isBlV, rdStrI, rdIntS, dFrz, dFld, insOf_put, dMeth, lstOf_rol, lstOf_put, seqOf_tup, seqOf_rol, seqOf_put, frz_tup, frz_rol, frz_int, frz_bl, frz_non, frz_str, frz_obj, startN, wipeD, List.map_cons, List.map_nil, List.length_cons, List.length_nil, Nat.zero_add, Nat.sub_self, Nat.reduceAdd, Nat.reduceSub, List.replicate_succ, List.replicate_zero, List.cons_append, List.nil_append, List.append_nil, List.getElem?_cons_zero, List.getElem?_cons_succ, List.set_cons_zero, List.set_cons_succ, Option.some.injEq, exists_eq_left', DEnds.xd, atI_0, atI_1, atI_2, atI_3, atI_4, atI_5, atI_6, atI_7, ixN_50, ixN_51, ixN_52, ixN_53, ixN_54, ixN_30, ixN_31, ixN_32, put_same, put_put, true_and, and_true, decide_true, decide_false, Bool.not_true, Bool.not_false, Bool.false_eq_true, if_true, if_false, decide_eq_true_eq, Bool.not_eq_true', decide_eq_false_iff_not, mem_one, ex_one, and_self]
    refine ⟨xs, i, rfl, hr, hi, ?_⟩
    rw [e]
    unfold rtD
    simp only [dSeq, dAsg, dRet, dRetN, dDrop, dRaise, dBreak, dCont, dPar, dAug, dFor, dNext, dSetF, dAugF, dRaiseF, dIfS, dTest, dOp, dVar, dC, dCB, dCons, dNil, dCall, dAndV, dOrV, dNotV, dAndT, dOrT, dNotT, dIf, dTup, dLst, dLstV, dSl, dSlV, rdSlV, oSome, oNone, dNeg, gN, gT, gConsD, gNilD, gSubD, gFldD, dChain, dLc, dBM, isLst, iSeqD, iR1, iR2, iR3, dYes, rdAddV, rdMulV, rdSub, rdDiv, rdMod, rdPow, rdIAdd, rdCmp, rdIsN, isn_non, isn_bl, isn_int, isn_str, isn_ref, isn_tup, isn_rol, isn_obj, rdEqG, rdIx_tup, rdIx_rol, rdIx_put, rdSet, rdLen_tup, rdLen_rol, rdLen_str, rdLen_put, rdInt1, rdInt, rdInt2, rdAppend, rdExt, rdPopAt, rdMaxL, rdMinL, rdListV, rdIsB, isBlV, rdStrI, rdIntS, dFrz, dFld, insOf_put, dMeth, lstOf_rol, lstOf_put, seqOf_tup, seqOf_rol, seqOf_put, frz_tup, frz_rol, frz_int, frz_bl, frz_non, frz_str, frz_obj, startN, wipeD, List.map_cons, List.map_nil, List.length_cons, List.length_nil, Nat.zero_add, Nat.sub_self, Nat.reduceAdd, Nat.reduceSub, List.replicate_succ, List.replicate_zero, List.cons_append, List.nil_append, List.append_nil, List.getElem?_cons_zero, List.getElem?_cons_succ, List.set_cons_zero, List.set_cons_succ, Option.some.injEq, exists_eq_left', DEnds.xd, atI_0, atI_1, atI_2, atI_3, atI_4, atI_5, atI_6, atI_7, ixN_50, ixN_51, ixN_52, ixN_53, ixN_54, ixN_30, ixN_31, ixN_32, put_same, put_put, true_and, and_true, decide_true, decide_false, Bool.not_true, Bool.not_false, Bool.false_eq_true, if_true, if_false, decide_eq_true_eq, Bool.not_eq_true', decide_eq_false_iff_not, mem_one, ex_one, and_self]
    refine ⟨slK, is_same ?_ h⟩
    refine ⟨slK (n := 2), ?_⟩
    intro x hx
    rcases List.mem_cons.mp hx with rfl | hx
    · trivial
    · rw [List.mem_singleton.mp hx]; trivial
  | ok q =>
    obtain ⟨ys, b⟩ := q
    obtain ⟨p1, p2, p3, p4, p5⟩ := parse_ok hr.2 hi (by have := hr.1; omega) e
    unfold toldD
    simp only [dSeq, dAsg, dRet, dRetN, dDrop, dRaise, dBreak, dCont, dPar, dAug, dFor, dNext, dSetF, dAugF, dRaiseF, dIfS, dTest, dOp, dVar, dC, dCB, dCons, dNil, dCall, dAndV, dOrV, dNotV, dAndT, dOrT, dNotT, dIf, dTup, dLst, dLstV, dSl, dSlV, rdSlV, oSome, oNone, dNeg, gN, gT, gConsD, gNilD, gSubD, gFldD, dChain, dLc, dBM, isLst, iSeqD, iR1, iR2, iR3, dYes, rdAddV, rdMulV, rdSub, rdDiv, rdMod, rdPow, rdIAdd, rdCmp, rdIsN, isn_non, isn_bl, isn_int, isn_str, isn_ref, isn_tup, isn_rol, isn_obj, rdEqG, rdIx_tup, rdIx_rol, rdIx_put, rdSet, rdLen_tup, rdLen_rol, rdLen_str, rdLen_put, rdInt1, rdInt, rdInt2, rdAppend, rdExt, rdPopAt, rdMaxL, rdMinL, rdListV, rdIsB, isBlV, rdStrI, rdIntS, dFrz, dFld, insOf_put, dMeth, lstOf_rol, lstOf_put, seqOf_tup, seqOf_rol, seqOf_put, frz_tup, frz_rol, frz_int, frz_bl, frz_non, frz_str, frz_obj, startN, wipeD, List.map_cons, List.map_nil, List.length_cons, List.length_nil, Nat.zero_add, Nat.sub_self, Nat.reduceAdd, Nat.reduceSub, List.replicate_succ, List.replicate_zero, List.cons_append, List.nil_append, List.append_nil, List.getElem?_cons_zero, List.getElem?_cons_succ, List.set_cons_zero, List.set_cons_succ, Option.some.injEq, exists_eq_left', DEnds.xd, atI_0, atI_1, atI_2, atI_3, atI_4, atI_5, atI_6, atI_7, ixN_50, ixN_51, ixN_52, ixN_53, ixN_54, ixN_30, ixN_31, ixN_32, put_same, put_put, true_and, and_true, decide_true, decide_false, Bool.not_true, Bool.not_false, Bool.false_eq_true, if_true, if_false, decide_eq_true_eq, Bool.not_eq_true', decide_eq_false_iff_not, mem_one, ex_one, and_self]
    refine ⟨xs, i, rfl, hr, hi, ?_⟩
    rw [e]
    unfold rtD
    simp only [dSeq, dAsg, dRet, dRetN, dDrop, dRaise, dBreak, dCont, dPar, dAug, dFor, dNext, dSetF, dAugF, dRaiseF, dIfS, dTest, dOp, dVar, dC, dCB, dCons, dNil, dCall, dAndV, dOrV, dNotV, dAndT, dOrT, dNotT, dIf, dTup, dLst, dLstV, dSl, dSlV, rdSlV, oSome, oNone, dNeg, gN, gT, gConsD, gNilD, gSubD, gFldD, dChain, dLc, dBM, isLst, iSeqD, iR1, iR2, iR3, dYes, rdAddV, rdMulV, rdSub, rdDiv, rdMod, rdPow, rdIAdd, rdCmp, rdIsN, isn_non, isn_bl, isn_int, isn_str, isn_ref, isn_tup, isn_rol, isn_obj, rdEqG, rdIx_tup, rdIx_rol, rdIx_put, rdSet, rdLen_tup, rdLen_rol, rdLen_str, rdLen_put, rdInt1, rdInt, rdInt2, rdAppend, rdExt, rdPopAt, rdMaxL, rdMinL, rdListV, rdIsB, isBlV, rdStrI, rdIntS, dFrz, dFld, insOf_put, dMeth, lstOf_rol, lstOf_put, seqOf_tup, seqOf_rol, seqOf_put, frz_tup, frz_rol, frz_int, frz_bl, frz_non, frz_str, frz_obj, startN, wipeD, List.map_cons, List.map_nil, List.length_cons, List.length_nil, Nat.zero_add, Nat.sub_self, Nat.reduceAdd, Nat.reduceSub, List.replicate_succ, List.replicate_zero, List.cons_append, List.nil_append, List.append_nil, List.getElem?_cons_zero, List.getElem?_cons_succ, List.set_cons_zero, List.set_cons_succ, Option.some.injEq, exists_eq_left', DEnds.xd, atI_0, atI_1, atI_2, atI_3, atI_4, atI_5, atI_6, atI_7, ixN_50, ixN_51, ixN_52, ixN_53, ixN_54, ixN_30, ixN_31, ixN_32, put_same, put_put, true_and, and_true, decide_true, decide_false, Bool.not_true, Bool.not_false, Bool.false_eq_true, if_true, if_false, decide_eq_true_eq, Bool.not_eq_true', decide_eq_false_iff_not, mem_one, ex_one, and_self]
    have c1 : clean 5 (.tup [.str (Str.ofString "told"), .tup [.tup (List.map Dv.int ys), .int (b : Nat)]]) := clean_cons (by unfold clean; decide +kernel) (clean_cons (clean_cons clean_ints (clean_cons trivial clean_tup0)) clean_tup0)
    refine isi_tuple kn_tup ?_
    show if true = false then _ else _
    rw [if_neg (by decide)]
    refine ⟨slK, slK, ?_⟩
    unfold VD.valOf
    dsimp only
    refine ⟨shp_clean c1, ?_⟩
    rw [eqv_same c1, if_neg (by decide)]
    refine go_input_row p5 p4 ?_
    rw [p1, cut_mid p2 p3]
    dsimp only
    rw [eqv_same (n := 2) clean_ints]
    exact ⟨⟨shp_clean (n := 2) clean_ints, shp_clean (n := 2) clean_ints⟩, h⟩
theorem cutR_take {xs : Runs} {k : Nat} : VD.cutD (List.map prD xs) none (some (k : Int)) = List.map prD (xs.take k) := by rw [cut_take (by omega), ← List.map_take]; rfl
theorem cutR_drop {xs : Runs} {k : Nat} : VD.cutD (List.map prD xs) (some (k : Int)) none = List.map prD (xs.drop k) := by rw [cut_drop (by omega), ← List.map_drop]; rfl
abbrev RunsB (rs : Runs) : Prop := ∀ p ∈ rs, 0 ≤ p.1 ∧ p.1 < 256 ∧ 0 ≤ p.2 ∧ p.2 < 18446744073709551616
def sp__law_wrong_runs (A : Ad) : SpD := fun ds S Q _ => ∃ a c B, ∃ rs : Runs, ds = [.ref a, .rol (rs.map prD)] ∧ IsH a c B S ∧ runsOk rs ∧ rs.length ≤ 100 ∧ ∀ rs' S', IsH a c B S' → runsOk rs' → rs'.length ≤ 101 → Q (.rol (rs'.map prD)) S'
theorem len__law_wrong_runs (A : Ad) : ∀ ds S Q X, sp__law_wrong_runs A ds S Q X → ds.length = 2 := by rintro _ _ _ _ ⟨_, _, _, _, rfl, _⟩; rfl
def r__law_wrong_runs (A : Ad) : DS := (dSeq (dAsg (dCall (sp__law_draw A) (dCons (dVar 0) (dCons (dOp rdAddV (dCB rdLen (dCons (dVar 1) dNil)) (dC (.int 1))) dNil))) (gN 2))
    (dSeq (dAsg (dCall (sp__law_draw A) (dCons (dVar 0) (dCons (dC (.int 3)) dNil))) (gN 3))
    (dSeq (dIfS (dTest (dOp rdEq (dVar 3) (dC (.int 0)))) (dRet (dOp rdAddV (dOp rdAddV (dSlV (dVar 1) oNone (oSome (dVar 2))) (dLstV (dCons (dTup (dCons (dCall (sp__law_byte A) (dCons (dVar 0) dNil)) (dCons (dC (.int 0)) dNil))) dNil))) (dSlV (dVar 1) (oSome (dVar 2)) oNone))) dNext)
    (dSeq (dIfS (dAndT (dTest (dOp rdEq (dVar 3) (dC (.int 1)))) (dTest (dOp rdGt (dVar 2) (dC (.int 0))))) (dRet (dOp rdAddV (dOp rdAddV (dSlV (dVar 1) oNone (oSome (dVar 2))) (dLstV (dCons (dTup (dCons (dOp rdIx (dOp rdIx (dVar 1) (dOp rdSub (dVar 2) (dC (.int 1)))) (dC (.int 0))) (dCons (dOp rdAddV (dC (.int 1)) (dCall (sp__law_draw A) (dCons (dVar 0) (dCons (dC (.int 3)) dNil)))) dNil))) dNil))) (dSlV (dVar 1) (oSome (dVar 2)) oNone))) dNext)
    (dRet (dOp rdAddV (dOp rdAddV (dSlV (dVar 1) oNone (oSome (dVar 2))) (dLstV (dCons (dTup (dCons (dCall (sp__law_byte A) (dCons (dVar 0) dNil)) (dCons (dOp rdIx (dLstV (dCons (dC (.int 99999)) (dCons (dC (.int 100000)) (dCons (dC (.int 100001)) (dCons (dOp rdPow (dC (.int 2)) (dC (.int 63))) dNil))))) (dCall (sp__law_draw A) (dCons (dVar 0) (dCons (dC (.int 4)) dNil)))) dNil))) dNil))) (dSlV (dVar 1) (oSome (dVar 2)) oNone)))))))
theorem rd__law_wrong_runs (A : Ad) : Rd (r__law_wrong_runs A) 4 (sp__law_wrong_runs A) := by
  rintro ds S Q X ⟨a, c, B, rs, rfl, hH, hx, hl, h⟩
  unfold r__law_wrong_runs
  simp only [dIfS, dTest, dOp, dVar, dC, dCB, dCons, dNil, dCall, dAndV, dOrV, dNotV, dAndT, dOrT, dNotT, dIf, dTup, dLst, dLstV, dSl, dSlV, rdSlV, oSome, oNone, dNeg, gN, gT, gConsD, gNilD, gSubD, gFldD, dChain, dLc, dBM, isLst, iSeqD, iR1, iR2, iR3, dYes, rdAddV, rdMulV, rdSub, rdDiv, rdMod, rdPow, rdIAdd, rdCmp, rdIsN, isn_non, isn_bl, isn_int, isn_str, isn_ref, isn_tup, isn_rol, isn_obj, rdEqG, rdIx_tup, rdIx_rol, rdIx_put, rdSet, rdLen_tup, rdLen_rol, rdLen_str, rdLen_put, rdInt1, rdInt, rdInt2, rdAppend, rdExt, rdPopAt, rdMaxL, rdMinL, rdListV, rdIsB, isBlV, rdStrI, rdIntS, dFrz, dFld, insOf_put, dMeth, lstOf_rol, lstOf_put, seqOf_tup, seqOf_rol, seqOf_put, frz_tup, frz_rol, frz_int, frz_bl, frz_non, frz_str, frz_obj, startN, wipeD, List.map_cons, List.map_nil, List.length_cons, List.length_nil, Nat.zero_add, Nat.sub_self, Nat.reduceAdd, Nat.reduceSub, List.replicate_succ, List.replicate_zero, List.cons_append, List.nil_append, List.append_nil, List.getElem?_cons_zero, List.getElem?_cons_succ, List.set_cons_zero, List.set_cons_succ, Option.some.injEq, exists_eq_left', DEnds.xd, atI_0, atI_1, atI_2, atI_3, atI_4, atI_5, atI_6, atI_7, ixN_50, ixN_51, ixN_52, ixN_53, ixN_54, ixN_30, ixN_31, ixN_32, put_same, put_put, true_and, and_true, decide_true, decide_false, Bool.not_true, Bool.not_false, Bool.false_eq_true, if_true, if_false, decide_eq_true_eq, Bool.not_eq_true', decide_eq_false_iff_not, mem_one, ex_one, and_self]
  refine cut_seq (fun ρ T => IsH a c B T ∧ ∃ i : Nat, i ≤ rs.length ∧ ρ = [some (.ref a), some (.rol (rs.map prD)), some (.int (i : Nat)), none]) (fun N hN => ?_) (fun ρ T hM => ?_)
  · simp only [dSeq, dAsg, dRet, dRetN, dDrop, dRaise, dBreak, dCont, dPar, dAug, dFor, dNext, dSetF, dAugF, dRaiseF, dIfS, dTest, dOp, dVar, dC, dCB, dCons, dNil, dCall, dAndV, dOrV, dNotV, dAndT, dOrT, dNotT, dIf, dTup, dLst, dLstV, dSl, dSlV, rdSlV, oSome, oNone, dNeg, gN, gT, gConsD, gNilD, gSubD, gFldD, dChain, dLc, dBM, isLst, iSeqD, iR1, iR2, iR3, dYes, rdAddV, rdMulV, rdSub, rdDiv, rdMod, rdPow, rdIAdd, rdCmp, rdIsN, isn_non, isn_bl, isn_int, isn_str, isn_ref, isn_tup, isn_rol, isn_obj, rdEqG, rdIx_tup, rdIx_rol, rdIx_put, rdSet, rdLen_tup, rdLen_rol, rdLen_str, rdLen_put, rdInt1, rdInt, rdInt2, rdAppend, rdExt, rdPopAt, rdMaxL, rdMinL, rdListV, rdIsB, isBlV, rdStrI, rdIntS, dFrz, dFld, insOf_put, dMeth, lstOf_rol, lstOf_put, seqOf_tup, seqOf_rol, seqOf_put, frz_tup, frz_rol, frz_int, frz_bl, frz_non, frz_str, frz_obj, startN, wipeD, List.map_cons, List.map_nil, List.length_cons, List.length_nil, Nat.zero_add, Nat.sub_self, Nat.reduceAdd, Nat.reduceSub, List.replicate_succ, List.replicate_zero, List.cons_append, List.nil_append, List.append_nil, List.getElem?_cons_zero, List.getElem?_cons_succ, List.set_cons_zero, List.set_cons_succ, Option.some.injEq, exists_eq_left', DEnds.xd, atI_0, atI_1, atI_2, atI_3, atI_4, atI_5, atI_6, atI_7, ixN_50, ixN_51, ixN_52, ixN_53, ixN_54, ixN_30, ixN_31, ixN_32, put_same, put_put, true_and, and_true, decide_true, decide_false, Bool.not_true, Bool.not_false, Bool.false_eq_true, if_true, if_false, decide_eq_true_eq, Bool.not_eq_true', decide_eq_false_iff_not, mem_one, ex_one, and_self]
    refine ask hH (fun r T ht h1 h2 => hN _ _ ⟨ht, r.toNat, ?_, ?_⟩) (by omega) (by rw [List.length_map]; omega)
    · rw [List.length_map] at h2; omega
    · rw [show ((r.toNat : Nat) : Int) = r by omega]
  obtain ⟨hH, i, hi, rfl⟩ := hM
  refine cut_seq (fun ρ T => IsH a c B T ∧ ∃ k : Int, ρ = [some (.ref a), some (.rol (rs.map prD)), some (.int (i : Nat)), some (.int k)]) (fun N hN => ?_) (fun ρ T hM => ?_)
  · simp only [dSeq, dAsg, dRet, dRetN, dDrop, dRaise, dBreak, dCont, dPar, dAug, dFor, dNext, dSetF, dAugF, dRaiseF, dIfS, dTest, dOp, dVar, dC, dCB, dCons, dNil, dCall, dAndV, dOrV, dNotV, dAndT, dOrT, dNotT, dIf, dTup, dLst, dLstV, dSl, dSlV, rdSlV, oSome, oNone, dNeg, gN, gT, gConsD, gNilD, gSubD, gFldD, dChain, dLc, dBM, isLst, iSeqD, iR1, iR2, iR3, dYes, rdAddV, rdMulV, rdSub, rdDiv, rdMod, rdPow, rdIAdd, rdCmp, rdIsN, isn_non, isn_bl, isn_int, isn_str, isn_ref, isn_tup, isn_rol, isn_obj, rdEqG, rdIx_tup, rdIx_rol, rdIx_put, rdSet, rdLen_tup, rdLen_rol, rdLen_str, rdLen_put, rdInt1, rdInt, rdInt2, rdAppend, rdExt, rdPopAt, rdMaxL, rdMinL, rdListV, rdIsB, isBlV, rdStrI, rdIntS, dFrz, dFld, insOf_put, dMeth, lstOf_rol, lstOf_put, seqOf_tup, seqOf_rol, seqOf_put, frz_tup, frz_rol, frz_int, frz_bl, frz_non, frz_str, frz_obj, startN, wipeD, List.map_cons, List.map_nil, List.length_cons, List.length_nil, Nat.zero_add, Nat.sub_self, Nat.reduceAdd, Nat.reduceSub, List.replicate_succ, List.replicate_zero, List.cons_append, List.nil_append, List.append_nil, List.getElem?_cons_zero, List.getElem?_cons_succ, List.set_cons_zero, List.set_cons_succ, Option.some.injEq, exists_eq_left', DEnds.xd, atI_0, atI_1, atI_2, atI_3, atI_4, atI_5, atI_6, atI_7, ixN_50, ixN_51, ixN_52, ixN_53, ixN_54, ixN_30, ixN_31, ixN_32, put_same, put_put, true_and, and_true, decide_true, decide_false, Bool.not_true, Bool.not_false, Bool.false_eq_true, if_true, if_false, decide_eq_true_eq, Bool.not_eq_true', decide_eq_false_iff_not, mem_one, ex_one, and_self]
    exact ask hH fun r T ht h1 h2 => hN _ _ ⟨ht, r, rfl⟩
  obtain ⟨hH, k, rfl⟩ := hM
  simp only [dSeq, dAsg, dRet, dRetN, dDrop, dRaise, dBreak, dCont, dPar, dAug, dFor, dNext, dSetF, dAugF, dRaiseF, dIfS, dTest, dOp, dVar, dC, dCB, dCons, dNil, dCall, dAndV, dOrV, dNotV, dAndT, dOrT, dNotT, dIf, dTup, dLst, dLstV, dSl, dSlV, rdSlV, oSome, oNone, dNeg, gN, gT, gConsD, gNilD, gSubD, gFldD, dChain, dLc, dBM, isLst, iSeqD, iR1, iR2, iR3, dYes, rdAddV, rdMulV, rdSub, rdDiv, rdMod, rdPow, rdIAdd, rdCmp, rdIsN, isn_non, isn_bl, isn_int, isn_str, isn_ref, isn_tup, isn_rol, isn_obj, rdEqG, rdIx_tup, rdIx_rol, rdIx_put, rdSet, rdLen_tup, rdLen_rol, rdLen_str, rdLen_put, rdInt1, rdInt, rdInt2, rdAppend, rdExt, rdPopAt, rdMaxL, rdMinL, rdListV, rdIsB, isBlV, rdStrI, rdIntS, dFrz, dFld, insOf_put, dMeth, lstOf_rol, lstOf_put, seqOf_tup, seqOf_rol, seqOf_put, frz_tup, frz_rol, frz_int, frz_bl, frz_non, frz_str, frz_obj, startN, wipeD, List.map_cons, List.map_nil, List.length_cons, List.length_nil, Nat.zero_add, Nat.sub_self, Nat.reduceAdd, Nat.reduceSub, List.replicate_succ, List.replicate_zero, List.cons_append, List.nil_append, List.append_nil, List.getElem?_cons_zero, List.getElem?_cons_succ, List.set_cons_zero, List.set_cons_succ, Option.some.injEq, exists_eq_left', DEnds.xd, atI_0, atI_1, atI_2, atI_3, atI_4, atI_5, atI_6, atI_7, ixN_50, ixN_51, ixN_52, ixN_53, ixN_54, ixN_30, ixN_31, ixN_32, put_same, put_put, true_and, and_true, decide_true, decide_false, Bool.not_true, Bool.not_false, Bool.false_eq_true, if_true, if_false, decide_eq_true_eq, Bool.not_eq_true', decide_eq_false_iff_not, mem_one, ex_one, and_self, cutR_take, cutR_drop]
  have fin : ∀ (q : Int × Int) (T : Sto), IsH a c B T → (0 ≤ q.1 ∧ q.1 < 256 ∧ 0 ≤ q.2 ∧ q.2 < 18446744073709551616) → (List.map prD (List.take i rs)).length + 1 ≤ sizeLine ∧ (List.map prD (List.take i rs) ++ [prD q]).length + (List.map prD (List.drop i rs)).length ≤ sizeLine ∧
      Q (Dv.rol (List.map prD (List.take i rs) ++ [prD q] ++ List.map prD (List.drop i rs))) T := fun q T hT hq => by
    refine ⟨by rw [List.length_map, List.length_take, sizeLine_eq]; omega, ?_, ?_⟩
    · simp only [List.length_append, List.length_map, List.length_take, List.length_drop, List.length_singleton]
      rw [sizeLine_eq]
      omega
    · rw [show List.map prD (List.take i rs) ++ [prD q] ++ List.map prD (List.drop i rs) = List.map prD (rs.take i ++ [q] ++ rs.drop i) by simp]
      refine h _ _ hT (fun p hp => ?_) (by simp; omega)
      rcases List.mem_append.mp hp with hp | hp
      · rcases List.mem_append.mp hp with hp | hp
        · exact hx p (List.mem_of_mem_take hp)
        · rw [List.mem_singleton.mp hp]; exact hq
      · exact hx p (List.mem_of_mem_drop hp)
  have last : ∀ X1 X2 : XD, sp__law_byte A [Dv.ref a] T (fun x S1 => CPow 2 63 ∧ 4 ≤ sizeLine ∧ sp__law_draw A [Dv.ref a, Dv.int 4] S1 (fun y S2 => rdIx (.rol [.int 99999, .int 100000, .int 100001, .int (2 ^ Int.toNat 63)]) y S2 fun z S3 => 2 ≤ sizeLine ∧ 1 ≤ sizeLine ∧ (List.map prD (List.take i rs)).length + 1 ≤ sizeLine ∧
      (List.map prD (List.take i rs) ++ [Dv.tup [x, z]]).length + (List.map prD (List.drop i rs)).length ≤ sizeLine ∧ Q (Dv.rol (List.map prD (List.take i rs) ++ [Dv.tup [x, z]] ++ List.map prD (List.drop i rs))) S3) X1) X2 := by
    intro X1 X2
    refine ⟨a, c, B, rfl, hH, fun x T2 hT2 x0 x1 => ⟨⟨by decide, by decide, by decide⟩, slK, ask_ix (xs := [.int 99999, .int 100000, .int 100001, .int (2 ^ Int.toNat 63)]) hT2 (fun r d T3 hT3 hd => ?_) (by decide) (by decide)⟩⟩
    obtain ⟨m, rfl, m0, m1⟩ : ∃ m : Int, d = .int m ∧ 0 ≤ m ∧ m < 18446744073709551616 := by
      have hr := (List.getElem?_eq_some_iff.mp hd).1
      simp at hr
      have : r = 0 ∨ r = 1 ∨ r = 2 ∨ r = 3 := by omega
      rcases this with rfl | rfl | rfl | rfl <;> (cases hd; exact ⟨_, rfl, by decide, by decide⟩)
    exact ⟨slK, slK, fin (x, m) T3 hT3 ⟨x0, x1, m0, m1⟩⟩
  by_cases k0 : k = 0
  · rw [if_pos k0]
    refine ⟨a, c, B, rfl, hH, fun x T2 hT2 x0 x1 => ⟨slK, slK, fin (x, 0) T2 hT2 ⟨x0, x1, by dsimp only; omega, by dsimp only; omega⟩⟩⟩
  rw [if_neg k0]
  by_cases k1 : k = 1
  · rw [if_pos k1]
    by_cases k2 : (0 : Int) < i
    · rw [if_pos k2]
      obtain ⟨q, hq⟩ : ∃ q, rs[i - 1]? = some q := ⟨_, List.getElem?_eq_getElem (by omega)⟩
      refine ⟨prD q, ?_, ?_⟩
      · rw [atI_nn (by omega), show ((i : Int) - 1).toNat = i - 1 by omega, List.getElem?_map, hq]; rfl
      unfold prD
      simp only [dSeq, dAsg, dRet, dRetN, dDrop, dRaise, dBreak, dCont, dPar, dAug, dFor, dNext, dSetF, dAugF, dRaiseF, dIfS, dTest, dOp, dVar, dC, dCB, dCons, dNil, dCall, dAndV, dOrV, dNotV, dAndT, dOrT, dNotT, dIf, dTup, dLst, dLstV, dSl, dSlV, rdSlV, oSome, oNone, dNeg, gN, gT, gConsD, gNilD, gSubD, gFldD, dChain, dLc, dBM, isLst, iSeqD, iR1, iR2, iR3, dYes, rdAddV, rdMulV, rdSub, rdDiv, rdMod, rdPow, rdIAdd, rdCmp, rdIsN, isn_non, isn_bl, isn_int, isn_str, isn_ref, isn_tup, isn_rol, isn_obj, rdEqG, rdIx_tup, rdIx_rol, rdIx_put, rdSet, rdLen_tup, rdLen_rol, rdLen_str, rdLen_put, rdInt1, rdInt, rdInt2, rdAppend, rdExt, rdPopAt, rdMaxL, rdMinL, rdListV, rdIsB, isBlV, rdStrI, rdIntS, dFrz, dFld, insOf_put, dMeth, lstOf_rol, lstOf_put, seqOf_tup, seqOf_rol, seqOf_put, frz_tup, frz_rol, frz_int, frz_bl, frz_non, frz_str, frz_obj, startN, wipeD, List.map_cons, List.map_nil, List.length_cons, List.length_nil, Nat.zero_add, Nat.sub_self, Nat.reduceAdd, Nat.reduceSub, List.replicate_succ, List.replicate_zero, List.cons_append, List.nil_append, List.append_nil, List.getElem?_cons_zero, List.getElem?_cons_succ, List.set_cons_zero, List.set_cons_succ, Option.some.injEq, exists_eq_left', DEnds.xd, atI_0, atI_1, atI_2, atI_3, atI_4, atI_5, atI_6, atI_7, ixN_50, ixN_51, ixN_52, ixN_53, ixN_54, ixN_30, ixN_31, ixN_32, put_same, put_put, true_and, and_true, decide_true, decide_false, Bool.not_true, Bool.not_false, Bool.false_eq_true, if_true, if_false, decide_eq_true_eq, Bool.not_eq_true', decide_eq_false_iff_not, mem_one, ex_one, and_self]
      have hq0 := hx q (List.mem_of_getElem? hq)
      refine ask hH (fun r T3 hT3 r0 r1 => ⟨slK, slK, fin (q.1, 1 + r) T3 hT3 ⟨hq0.1, hq0.2.1, by dsimp only; omega, by dsimp only; omega⟩⟩)
    · rw [if_neg k2]
      exact last _ _
  · rw [if_neg k1]
    exact last _ _
end Lw

namespace Lw
open PySem PySem.Spec PyProof.Rows L2 VD
def sp__law_is_guess (A : Ad) : SpD := fun ds S Q _ => ∃ a c B, ds = [.ref a] ∧ IsH a c B S ∧ ∀ S', IsH a c B S' → Q (.bl true) S'
theorem len__law_is_guess (A : Ad) : ∀ ds S Q X, sp__law_is_guess A ds S Q X → ds.length = 1 := by rintro _ _ _ _ ⟨_, _, _, rfl, _⟩; rfl
def r__law_is_guess (A : Ad) : DS := (dSeq (dAsg (dOp rdIx (dLstV (dCons (dC .non) (dCons (dC (.int 0)) (dCons (dC (.int 255)) (dCons (dCall (sp__law_draw A) (dCons (dVar 0) (dCons (dC (.int 256)) dNil))) dNil))))) (dCall (sp__law_draw A) (dCons (dVar 0) (dCons (dC (.int 4)) dNil)))) (gN 1))
    (dSeq (dAsg (dOp rdIx (dLstV (dCons (dC (.int 0)) (dCons (dC (.int 1)) (dCons (dC (.int 600)) (dCons (dCall (sp__law_draw A) (dCons (dVar 0) (dCons (dC (.int 601)) dNil))) dNil))))) (dCall (sp__law_draw A) (dCons (dVar 0) (dCons (dC (.int 4)) dNil)))) (gN 2))
    (dSeq (dFor (iSeqD (dLstV (dCons (dC (.int 0)) (dCons (dVar 2) (dCons (dOp rdAddV (dVar 2) (dC (.int 1))) (dCons (dCB rdMaxL (dCons (dC (.int 0)) (dCons (dOp rdSub (dVar 2) (dC (.int 1))) dNil))) (dCons (dC (.int 100000)) (dCons (dCall (sp__law_draw A) (dCons (dVar 0) (dCons (dC (.int 100001)) dNil))) dNil)))))))) (gN 3) (dSeq (dAsg (dC (.int 0)) (gN 4))
    (dSeq (dIfS (dAndT (dTest (dOp (rdIsN fun b => !b) (dVar 1) (dC .non))) (dTest (dOp rdLe (dVar 3) (dVar 2)))) (dAsg (dVar 1) (gN 4)) dNext)
    (dIfS (dNotT (dTest (dCall (sp__law_is A 4) (dCons (dCall (sp_guess A) (dCons (dVar 1) (dCons (dVar 3) (dCons (dVar 2) dNil)))) (dCons (dVar 4) dNil))))) (dRet (dC (.bl false))) dNext))))
    (dRet (dC (.bl true))))))
theorem rd__law_is_guess (A : Ad) : Rd (r__law_is_guess A) 5 (sp__law_is_guess A) := by
  rintro ds S Q X ⟨a, c, B, rfl, hH, h⟩
  unfold r__law_is_guess
  simp only [dIfS, dTest, dOp, dVar, dC, dCB, dCons, dNil, dCall, dAndV, dOrV, dNotV, dAndT, dOrT, dNotT, dIf, dTup, dLst, dLstV, dSl, dSlV, rdSlV, oSome, oNone, dNeg, gN, gT, gConsD, gNilD, gSubD, gFldD, dChain, dLc, dBM, isLst, iSeqD, iR1, iR2, iR3, dYes, rdAddV, rdMulV, rdSub, rdDiv, rdMod, rdPow, rdIAdd, rdCmp, rdIsN, isn_non, isn_bl, isn_int, isn_str, isn_ref, isn_tup, isn_rol, isn_obj, rdEqG, rdIx_tup, rdIx_rol, rdIx_put, rdSet, rdLen_tup, rdLen_rol, rdLen_str, rdLen_put, rdInt1, rdInt, rdInt2, rdAppend, rdExt, rdPopAt, rdMaxL, rdMinL, rdListV, rdIsB, isBlV, rdStrI, rdIntS, dFrz, dFld, insOf_put, dMeth, lstOf_rol, lstOf_put, seqOf_tup, seqOf_rol, seqOf_put, frz_tup, frz_rol, frz_int, frz_bl, frz_non, frz_str, frz_obj, startN, wipeD, List.map_cons, List.map_nil, List.length_cons, List.length_nil, Nat.zero_add, Nat.sub_self, Nat.reduceAdd, Nat.reduceSub, List.replicate_succ, List.replicate_zero, List.cons_append, List.nil_append, List.append_nil, List.getElem?_cons_zero, List.getElem?_cons_succ, List.set_cons_zero, List.set_cons_succ, Option.some.injEq, exists_eq_left', DEnds.xd, atI_0, atI_1, atI_2, atI_3, atI_4, atI_5, atI_6, atI_7, ixN_50, ixN_51, ixN_52, ixN_53, ixN_54, ixN_30, ixN_31, ixN_32, put_same, put_put, true_and, and_true, decide_true, decide_false, Bool.not_true, Bool.not_false, Bool.false_eq_true, if_true, if_false, decide_eq_true_eq, Bool.not_eq_true', decide_eq_false_iff_not, mem_one, ex_one, and_self]
  refine cut_seq (fun ρ T => IsH a c B T ∧ ∃ last : Dv, (last = .non ∨ ∃ b, last = .int b ∧ 0 ≤ b ∧ b < 256) ∧ ρ = [some (.ref a), some last, none, none, none]) (fun N hN => ?_) (fun ρ T hM => ?_)
  · simp only [dSeq, dAsg, dRet, dRetN, dDrop, dRaise, dBreak, dCont, dPar, dAug, dFor, dNext, dSetF, dAugF, dRaiseF, dIfS, dTest, dOp, dVar, dC, dCB, dCons, dNil, dCall, dAndV, dOrV, dNotV, dAndT, dOrT, dNotT, dIf, dTup, dLst, dLstV, dSl, dSlV, rdSlV, oSome, oNone, dNeg, gN, gT, gConsD, gNilD, gSubD, gFldD, dChain, dLc, dBM, isLst, iSeqD, iR1, iR2, iR3, dYes, rdAddV, rdMulV, rdSub, rdDiv, rdMod, rdPow, rdIAdd, rdCmp, rdIsN, isn_non, isn_bl, isn_int, isn_str, isn_ref, isn_tup, isn_rol, isn_obj, rdEqG, rdIx_tup, rdIx_rol, rdIx_put, rdSet, rdLen_tup, rdLen_rol, rdLen_str, rdLen_put, rdInt1, rdInt, rdInt2, rdAppend, rdExt, rdPopAt, rdMaxL, rdMinL, rdListV, rdIsB, isBlV, rdStrI, rdIntS, dFrz, dFld, insOf_put, dMeth, lstOf_rol, lstOf_put, seqOf_tup, seqOf_rol, seqOf_put, frz_tup, frz_rol, frz_int, frz_bl, frz_non, frz_str, frz_obj, startN, wipeD, List.map_cons, List.map_nil, List.length_cons, List.length_nil, Nat.zero_add, Nat.sub_self, Nat.reduceAdd, Nat.reduceSub, List.replicate_succ, List.replicate_zero, List.cons_append, List.nil_append, List.append_nil, List.getElem?_cons_zero, List.getElem?_cons_succ, List.set_cons_zero, List.set_cons_succ, Option.some.injEq, exists_eq_left', DEnds.xd, atI_0, atI_1, atI_2, atI_3, atI_4, atI_5, atI_6, atI_7, ixN_50, ixN_51, ixN_52, ixN_53, ixN_54, ixN_30, ixN_31, ixN_32, put_same, put_put, true_and, and_true, decide_true, decide_false, Bool.not_true, Bool.not_false, Bool.false_eq_true, if_true, if_false, decide_eq_true_eq, Bool.not_eq_true', decide_eq_false_iff_not, mem_one, ex_one, and_self]
    refine ask hH fun r T ht h1 h2 => ⟨slK, ask_ix (xs := [.non, .int 0, .int 255, .int r]) ht (fun k d T2 hT2 hd => hN _ _ ⟨hT2, d, ?_, rfl⟩) (by simp) (by simp)⟩
    have hr := (List.getElem?_eq_some_iff.mp hd).1
    simp at hr
    have : k = 0 ∨ k = 1 ∨ k = 2 ∨ k = 3 := by omega
    rcases this with rfl | rfl | rfl | rfl <;> cases hd
    · exact .inl rfl
    · exact .inr ⟨_, rfl, by decide, by decide⟩
    · exact .inr ⟨_, rfl, by decide, by decide⟩
    · exact .inr ⟨_, rfl, h1, h2⟩
  obtain ⟨hH, last, hl, rfl⟩ := hM
  refine cut_seq (fun ρ T => IsH a c B T ∧ ∃ hold : Int, 0 ≤ hold ∧ hold ≤ 600 ∧ ρ = [some (.ref a), some last, some (.int hold), none, none]) (fun N hN => ?_) (fun ρ T hM => ?_)
  · simp only [dSeq, dAsg, dRet, dRetN, dDrop, dRaise, dBreak, dCont, dPar, dAug, dFor, dNext, dSetF, dAugF, dRaiseF, dIfS, dTest, dOp, dVar, dC, dCB, dCons, dNil, dCall, dAndV, dOrV, dNotV, dAndT, dOrT, dNotT, dIf, dTup, dLst, dLstV, dSl, dSlV, rdSlV, oSome, oNone, dNeg, gN, gT, gConsD, gNilD, gSubD, gFldD, dChain, dLc, dBM, isLst, iSeqD, iR1, iR2, iR3, dYes, rdAddV, rdMulV, rdSub, rdDiv, rdMod, rdPow, rdIAdd, rdCmp, rdIsN, isn_non, isn_bl, isn_int, isn_str, isn_ref, isn_tup, isn_rol, isn_obj, rdEqG, rdIx_tup, rdIx_rol, rdIx_put, rdSet, rdLen_tup, rdLen_rol, rdLen_str, rdLen_put, rdInt1, rdInt, rdInt2, rdAppend, rdExt, rdPopAt, rdMaxL, rdMinL, rdListV, rdIsB, isBlV, rdStrI, rdIntS, dFrz, dFld, insOf_put, dMeth, lstOf_rol, lstOf_put, seqOf_tup, seqOf_rol, seqOf_put, frz_tup, frz_rol, frz_int, frz_bl, frz_non, frz_str, frz_obj, startN, wipeD, List.map_cons, List.map_nil, List.length_cons, List.length_nil, Nat.zero_add, Nat.sub_self, Nat.reduceAdd, Nat.reduceSub, List.replicate_succ, List.replicate_zero, List.cons_append, List.nil_append, List.append_nil, List.getElem?_cons_zero, List.getElem?_cons_succ, List.set_cons_zero, List.set_cons_succ, Option.some.injEq, exists_eq_left', DEnds.xd, atI_0, atI_1, atI_2, atI_3, atI_4, atI_5, atI_6, atI_7, ixN_50, ixN_51, ixN_52, ixN_53, ixN_54, ixN_30, ixN_31, ixN_32, put_same, put_put, true_and, and_true, decide_true, decide_false, Bool.not_true, Bool.not_false, Bool.false_eq_true, if_true, if_false, decide_eq_true_eq, Bool.not_eq_true', decide_eq_false_iff_not, mem_one, ex_one, and_self]
    refine ask hH fun r T ht h1 h2 => ⟨slK, ask_ix (xs := [.int 0, .int 1, .int 600, .int r]) ht (fun k d T2 hT2 hd => ?_) (by simp) (by simp)⟩
    have hr := (List.getElem?_eq_some_iff.mp hd).1
    simp at hr
    have : k = 0 ∨ k = 1 ∨ k = 2 ∨ k = 3 := by omega
    rcases this with rfl | rfl | rfl | rfl <;> cases hd
    · exact hN _ _ ⟨hT2, _, by decide, by decide, rfl⟩
    · exact hN _ _ ⟨hT2, _, by decide, by decide, rfl⟩
    · exact hN _ _ ⟨hT2, _, by decide, by decide, rfl⟩
    · exact hN _ _ ⟨hT2, _, h1, by omega, rfl⟩
  obtain ⟨hH, hold, h0, h1, rfl⟩ := hM
  simp only [dSeq, dAsg, dRet, dRetN, dDrop, dRaise, dBreak, dCont, dPar, dAug, dFor, dNext, dSetF, dAugF, dRaiseF, dIfS, dTest, dOp, dVar, dC, dCB, dCons, dNil, dCall, dAndV, dOrV, dNotV, dAndT, dOrT, dNotT, dIf, dTup, dLst, dLstV, dSl, dSlV, rdSlV, oSome, oNone, dNeg, gN, gT, gConsD, gNilD, gSubD, gFldD, dChain, dLc, dBM, isLst, iSeqD, iR1, iR2, iR3, dYes, rdAddV, rdMulV, rdSub, rdDiv, rdMod, rdPow, rdIAdd, rdCmp, rdIsN, isn_non, isn_bl, isn_int, isn_str, isn_ref, isn_tup, isn_rol, isn_obj, rdEqG, rdIx_tup, rdIx_rol, rdIx_put, rdSet, rdLen_tup, rdLen_rol, rdLen_str, rdLen_put, rdInt1, rdInt, rdInt2, rdAppend, rdExt, rdPopAt, rdMaxL, rdMinL, rdListV, rdIsB, isBlV, rdStrI, rdIntS, dFrz, dFld, insOf_put, dMeth, lstOf_rol, lstOf_put, seqOf_tup, seqOf_rol, seqOf_put, frz_tup, frz_rol, frz_int, frz_bl, frz_non, frz_str, frz_obj, startN, wipeD, List.map_cons, List.map_nil, List.length_cons, List.length_nil, Nat.zero_add, Nat.sub_self, Nat.reduceAdd, Nat.reduceSub, List.replicate_succ, List.replicate_zero, List.cons_append, List.nil_append, List.append_nil, List.getElem?_cons_zero, List.getElem?_cons_succ, List.set_cons_zero, List.set_cons_succ, Option.some.injEq, exists_eq_left', DEnds.xd, atI_0, atI_1, atI_2, atI_3, atI_4, atI_5, atI_6, atI_7, ixN_50, ixN_51, ixN_52, ixN_53, ixN_54, ixN_30, ixN_31, ixN_32, put_same, put_put, true_and, and_true, decide_true, decide_false, Bool.not_true, Bool.not_false, Bool.false_eq_true, if_true, if_false, decide_eq_true_eq, Bool.not_eq_true', decide_eq_false_iff_not, mem_one, ex_one, and_self]
  refine ask hH fun r T ht r1 r2 => ⟨slK, ?_⟩
  refine for_go (fun j ρ T => IsH a c B T ∧ ∃ y z, ρ = [some (.ref a), some last, some (.int hold), y, z]) ⟨ht, _, _, rfl⟩ (fun _ _ _ _ _ => trivial) (fun j z ρ T hz hw => ?_) fun ρ T hw => ?_
  · obtain ⟨hT, y1, y2, rfl⟩ := hw
    obtain ⟨ago, rfl, a0, a1⟩ : ∃ ago : Int, z = .int ago ∧ 0 ≤ ago ∧ ago ≤ 100000 := by
      have hr := List.mem_of_getElem? hz
      simp only [List.mem_cons, List.not_mem_nil, or_false] at hr
      rcases hr with rfl | rfl | rfl | rfl | rfl | rfl
      · exact ⟨_, rfl, by decide, by decide⟩
      · exact ⟨_, rfl, h0, by omega⟩
      · exact ⟨_, rfl, by omega, by omega⟩
      · exact ⟨_, rfl, by split <;> omega, by split <;> omega⟩
      · exact ⟨_, rfl, by decide, by decide⟩
      · exact ⟨_, rfl, r1, by omega⟩
    have done : ∀ (d : Dv) (X1 X2 : XD), d = gsF last ago hold → sp_guess A [last, .int ago, .int hold] T (fun x S1 => sp__law_is A 4 [x, d] S1 (fun x S2 => match x with
        | .bl b => if b = false then Q (.bl false) S2 else (IsH a c B S2 ∧ ∃ y z, [some (.ref a), some last, some (.int hold), some (Dv.int ago), some d] = [some (.ref a), some last, some (.int hold), y, z])
        | _ => False) X1) X2 := by
      intro d X1 X2 hd
      refine ⟨last, ago, hold, rfl, hl, ⟨a0, a1⟩, ⟨h0, h1⟩, ?_⟩
      rw [← hd]
      refine is_same ?_ ?_
      · rw [hd]
        unfold gsF
        rcases hl with rfl | ⟨b, rfl, _⟩
        · trivial
        · rw [isn_int, if_neg (by decide)]
          split <;> trivial
      · show if true = false then _ else _
        rw [if_neg (by decide)]
        exact ⟨hT, _, _, rfl⟩
    rcases hl with rfl | ⟨b, rfl, _⟩
    · simp only [dSeq, dAsg, dRet, dRetN, dDrop, dRaise, dBreak, dCont, dPar, dAug, dFor, dNext, dSetF, dAugF, dRaiseF, dIfS, dTest, dOp, dVar, dC, dCB, dCons, dNil, dCall, dAndV, dOrV, dNotV, dAndT, dOrT, dNotT, dIf, dTup, dLst, dLstV, dSl, dSlV, rdSlV, oSome, oNone, dNeg, gN, gT, gConsD, gNilD, gSubD, gFldD, dChain, dLc, dBM, isLst, iSeqD, iR1, iR2, iR3, dYes, rdAddV, rdMulV, rdSub, rdDiv, rdMod, rdPow, rdIAdd, rdCmp, rdIsN, isn_non, isn_bl, isn_int, isn_str, isn_ref, isn_tup, isn_rol, isn_obj, rdEqG, rdIx_tup, rdIx_rol, rdIx_put, rdSet, rdLen_tup, rdLen_rol, rdLen_str, rdLen_put, rdInt1, rdInt, rdInt2, rdAppend, rdExt, rdPopAt, rdMaxL, rdMinL, rdListV, rdIsB, isBlV, rdStrI, rdIntS, dFrz, dFld, insOf_put, dMeth, lstOf_rol, lstOf_put, seqOf_tup, seqOf_rol, seqOf_put, frz_tup, frz_rol, frz_int, frz_bl, frz_non, frz_str, frz_obj, startN, wipeD, List.map_cons, List.map_nil, List.length_cons, List.length_nil, Nat.zero_add, Nat.sub_self, Nat.reduceAdd, Nat.reduceSub, List.replicate_succ, List.replicate_zero, List.cons_append, List.nil_append, List.append_nil, List.getElem?_cons_zero, List.getElem?_cons_succ, List.set_cons_zero, List.set_cons_succ, Option.some.injEq, exists_eq_left', DEnds.xd, atI_0, atI_1, atI_2, atI_3, atI_4, atI_5, atI_6, atI_7, ixN_50, ixN_51, ixN_52, ixN_53, ixN_54, ixN_30, ixN_31, ixN_32, put_same, put_put, true_and, and_true, decide_true, decide_false, Bool.not_true, Bool.not_false, Bool.false_eq_true, if_true, if_false, decide_eq_true_eq, Bool.not_eq_true', decide_eq_false_iff_not, mem_one, ex_one, and_self, reduceCtorEq]
      exact done _ _ _ rfl
    · simp only [dSeq, dAsg, dRet, dRetN, dDrop, dRaise, dBreak, dCont, dPar, dAug, dFor, dNext, dSetF, dAugF, dRaiseF, dIfS, dTest, dOp, dVar, dC, dCB, dCons, dNil, dCall, dAndV, dOrV, dNotV, dAndT, dOrT, dNotT, dIf, dTup, dLst, dLstV, dSl, dSlV, rdSlV, oSome, oNone, dNeg, gN, gT, gConsD, gNilD, gSubD, gFldD, dChain, dLc, dBM, isLst, iSeqD, iR1, iR2, iR3, dYes, rdAddV, rdMulV, rdSub, rdDiv, rdMod, rdPow, rdIAdd, rdCmp, rdIsN, isn_non, isn_bl, isn_int, isn_str, isn_ref, isn_tup, isn_rol, isn_obj, rdEqG, rdIx_tup, rdIx_rol, rdIx_put, rdSet, rdLen_tup, rdLen_rol, rdLen_str, rdLen_put, rdInt1, rdInt, rdInt2, rdAppend, rdExt, rdPopAt, rdMaxL, rdMinL, rdListV, rdIsB, isBlV, rdStrI, rdIntS, dFrz, dFld, insOf_put, dMeth, lstOf_rol, lstOf_put, seqOf_tup, seqOf_rol, seqOf_put, frz_tup, frz_rol, frz_int, frz_bl, frz_non, frz_str, frz_obj, startN, wipeD, List.map_cons, List.map_nil, List.length_cons, List.length_nil, Nat.zero_add, Nat.sub_self, Nat.reduceAdd, Nat.reduceSub, List.replicate_succ, List.replicate_zero, List.cons_append, List.nil_append, List.append_nil, List.getElem?_cons_zero, List.getElem?_cons_succ, List.set_cons_zero, List.set_cons_succ, Option.some.injEq, exists_eq_left', DEnds.xd, atI_0, atI_1, atI_2, atI_3, atI_4, atI_5, atI_6, atI_7, ixN_50, ixN_51, ixN_52, ixN_53, ixN_54, ixN_30, ixN_31, ixN_32, put_same, put_put, true_and, and_true, decide_true, decide_false, Bool.not_true, Bool.not_false, Bool.false_eq_true, if_true, if_false, decide_eq_true_eq, Bool.not_eq_true', decide_eq_false_iff_not, mem_one, ex_one, and_self]
      split
      · rename_i hh
        exact done _ _ _ (by unfold gsF; rw [isn_int, if_neg (by decide), if_pos hh])
      · rename_i hh
        exact done _ _ _ (by unfold gsF; rw [isn_int, if_neg (by decide), if_neg hh])
  · obtain ⟨hT, y1, y2, rfl⟩ := hw
    simp only [dSeq, dAsg, dRet, dRetN, dDrop, dRaise, dBreak, dCont, dPar, dAug, dFor, dNext, dSetF, dAugF, dRaiseF, dIfS, dTest, dOp, dVar, dC, dCB, dCons, dNil, dCall, dAndV, dOrV, dNotV, dAndT, dOrT, dNotT, dIf, dTup, dLst, dLstV, dSl, dSlV, rdSlV, oSome, oNone, dNeg, gN, gT, gConsD, gNilD, gSubD, gFldD, dChain, dLc, dBM, isLst, iSeqD, iR1, iR2, iR3, dYes, rdAddV, rdMulV, rdSub, rdDiv, rdMod, rdPow, rdIAdd, rdCmp, rdIsN, isn_non, isn_bl, isn_int, isn_str, isn_ref, isn_tup, isn_rol, isn_obj, rdEqG, rdIx_tup, rdIx_rol, rdIx_put, rdSet, rdLen_tup, rdLen_rol, rdLen_str, rdLen_put, rdInt1, rdInt, rdInt2, rdAppend, rdExt, rdPopAt, rdMaxL, rdMinL, rdListV, rdIsB, isBlV, rdStrI, rdIntS, dFrz, dFld, insOf_put, dMeth, lstOf_rol, lstOf_put, seqOf_tup, seqOf_rol, seqOf_put, frz_tup, frz_rol, frz_int, frz_bl, frz_non, frz_str, frz_obj, startN, wipeD, List.map_cons, List.map_nil, List.length_cons, List.length_nil, Nat.zero_add, Nat.sub_self, Nat.reduceAdd, Nat.reduceSub, List.replicate_succ, List.replicate_zero, List.cons_append, List.nil_append, List.append_nil, List.getElem?_cons_zero, List.getElem?_cons_succ, List.set_cons_zero, List.set_cons_succ, Option.some.injEq, exists_eq_left', DEnds.xd, atI_0, atI_1, atI_2, atI_3, atI_4, atI_5, atI_6, atI_7, ixN_50, ixN_51, ixN_52, ixN_53, ixN_54, ixN_30, ixN_31, ixN_32, put_same, put_put, true_and, and_true, decide_true, decide_false, Bool.not_true, Bool.not_false, Bool.false_eq_true, if_true, if_false, decide_eq_true_eq, Bool.not_eq_true', decide_eq_false_iff_not, mem_one, ex_one, and_self]
    exact h _ hT
def few (d : Dv) : Bool := match d with
  | .tup [_, .int m] => decide (m < 1000)
  | _ => false
theorem few_map (rs : Runs) : ((rs.map prD).filter few).map (fun d => d) = (rs.filter fun p => decide (p.2 < 1000)).map prD := by
  rw [List.map_id']
  induction rs with
  | nil => rfl
  | cons q rs ih =>
    rw [List.map_cons, List.filter_cons, List.filter_cons]
    show (if decide (q.2 < 1000) = true then _ else _) = _
    split
    · rw [List.map_cons, ih]
    · exact ih
theorem figs_By {n : Int} (h0 : 0 ≤ n) (h1 : n < 18446744073709551616) : By (figs n) := figF_ok 9 n h0 (by rw [pow_top]; omega)
theorem runB_By {rs : Runs} (h : runsOk rs) (hl : rs.length ≤ 1000000) : By (runB rs) := by
  unfold runB
  refine (figs_By (by omega) (by omega)).app fun n hn => ?_
  obtain ⟨p, hp, hn⟩ := List.mem_flatMap.mp hn
  have hp := h p hp
  rcases List.mem_cons.mp hn with rfl | hn
  · exact ⟨hp.1, hp.2.1⟩
  · exact figs_By hp.2.2.1 hp.2.2.2 n hn
theorem runsOk_runsF {xs : List Int} (hx : By xs) (hl : xs.length ≤ 1000000) : runsOk (runsF xs) := by
  intro p hp
  obtain ⟨c1, c2⟩ := canon_runsF xs
  have h1 := cnt_le xs p hp
  have : p.1 ∈ xs := by
    rw [← c2]
    refine List.mem_flatMap.mpr ⟨p, hp, List.mem_replicate.mpr ⟨by omega, rfl⟩⟩
  have := hx _ this
  omega
def r_law (A : Ad) : DS := (dSeq (dAsg (dCall (sp__law_hand A) (dCons (dVar 0) dNil)) (gN 1))
    (dSeq (dAsg (dCall (sp__law_draw A) (dCons (dVar 1) (dCons (dC (.int 4)) dNil))) (gN 2))
    (dSeq (dAsg (dCall (sp__law_runs A) (dCons (dVar 1) dNil)) (gN 3))
    (dSeq (dAsg (dCall (sp__law_ticks A) (dCons (dVar 3) dNil)) (gN 4))
    (dSeq (dAsg (dCall (sp_input_row A) (dCons (dVar 4) dNil)) (gN 5))
    (dSeq (dAsg (dCall (sp__law_input_bytes A) (dCons (dVar 4) dNil)) (gN 6))
    (dSeq (dIfS (dNotT (dTest (dCall (sp__law_is A 4) (dCons (dVar 5) (dCons (dVar 6) dNil))))) (dRet (dC (.bl false))) dNext)
    (dSeq (dAsg (dCall (sp__law_bytes A) (dCons (dVar 1) (dCons (dC (.int 5)) dNil))) (gN 7))
    (dSeq (dAsg (dCall (sp__law_bytes A) (dCons (dVar 1) (dCons (dC (.int 5)) dNil))) (gN 8))
    (dSeq (dIfS (dTest (dOp rdNe (dCall (sp__law_read_told A) (dCons (dOp rdAddV (dOp rdAddV (dVar 7) (dVar 6)) (dVar 8)) (dCons (dCB rdLen (dCons (dVar 7) dNil)) dNil))) (dTup (dCons (dC (.str (Str.ofString "told"))) (dCons (dTup (dCons (dVar 4) (dCons (dOp rdAddV (dCB rdLen (dCons (dVar 7) dNil)) (dCB rdLen (dCons (dVar 6) dNil))) dNil))) dNil))))) (dRet (dC (.bl false))) dNext)
    (dSeq (dFor (iR1 (dCons (dVar 2) dNil)) (gN 9) (dSeq (dAsg (dCall (sp__law_spoilt A) (dCons (dVar 1) (dCons (dVar 5) dNil))) (gN 5))
    (dIfS (dNotT (dTest (dCall (sp__law_is_told A) (dCons (dOp rdAddV (dOp rdAddV (dVar 7) (dVar 5)) (dVar 8)) (dCons (dCB rdLen (dCons (dVar 7) dNil)) dNil))))) (dRet (dC (.bl false))) dNext)))
    (dSeq (dAsg (dFrz (dLc (iSeqD (dVar 3)) (gT 2 (gConsD (gN 13) (gConsD (gN 14) gNilD))) (dTest (dOp rdLt (dVar 14) (dC (.int 1000)))) (dTup (dCons (dVar 13) (dCons (dVar 14) dNil))) [13, 14])) (gN 10))
    (dSeq (dIfS (dNotT (dTest (dCall (sp__law_is_told A) (dCons (dOp rdAddV (dVar 7) (dCall (sp__law_run_bytes A) (dCons (dCall (sp__law_wrong_runs A) (dCons (dVar 1) (dCons (dVar 10) dNil))) dNil))) (dCons (dCB rdLen (dCons (dVar 7) dNil)) dNil))))) (dRet (dC (.bl false))) dNext)
    (dSeq (dAsg (dCall (sp__law_bytes A) (dCons (dVar 1) (dCons (dC (.int 12)) dNil))) (gN 11))
    (dSeq (dFor (iR1 (dCons (dOp rdAddV (dCB rdLen (dCons (dVar 11) dNil)) (dC (.int 1))) dNil)) (gN 12) (dIfS (dNotT (dTest (dCall (sp__law_is_told A) (dCons (dVar 11) (dCons (dVar 12) dNil))))) (dRet (dC (.bl false))) dNext))
    (dRet (dAndV (dCall (sp__law_is_guess A) (dCons (dVar 1) dNil)) (dOp rdEq (dCall (sp_input_row A) (dCons (dVar 4) dNil)) (dVar 6)))))))))))))))))))
theorem rd_law (A : Ad) : Rd (r_law A) 15 spLaw := by
  rintro ds S Q X ⟨script, rfl, hl, rfl, h⟩
  unfold r_law
  simp only [dIfS, dTest, dOp, dVar, dC, dCB, dCons, dNil, dCall, dAndV, dOrV, dNotV, dAndT, dOrT, dNotT, dIf, dTup, dLst, dLstV, dSl, dSlV, rdSlV, oSome, oNone, dNeg, gN, gT, gConsD, gNilD, gSubD, gFldD, dChain, dLc, dBM, isLst, iSeqD, iR1, iR2, iR3, dYes, rdAddV, rdMulV, rdSub, rdDiv, rdMod, rdPow, rdIAdd, rdCmp, rdIsN, isn_non, isn_bl, isn_int, isn_str, isn_ref, isn_tup, isn_rol, isn_obj, rdEqG, rdIx_tup, rdIx_rol, rdIx_put, rdSet, rdLen_tup, rdLen_rol, rdLen_str, rdLen_put, rdInt1, rdInt, rdInt2, rdAppend, rdExt, rdPopAt, rdMaxL, rdMinL, rdListV, rdIsB, isBlV, rdStrI, rdIntS, dFrz, dFld, insOf_put, dMeth, lstOf_rol, lstOf_put, seqOf_tup, seqOf_rol, seqOf_put, frz_tup, frz_rol, frz_int, frz_bl, frz_non, frz_str, frz_obj, startN, wipeD, List.map_cons, List.map_nil, List.length_cons, List.length_nil, Nat.zero_add, Nat.sub_self, Nat.reduceAdd, Nat.reduceSub, List.replicate_succ, List.replicate_zero, List.cons_append, List.nil_append, List.append_nil, List.getElem?_cons_zero, List.getElem?_cons_succ, List.set_cons_zero, List.set_cons_succ, Option.some.injEq, exists_eq_left', DEnds.xd, atI_0, atI_1, atI_2, atI_3, atI_4, atI_5, atI_6, atI_7, ixN_50, ixN_51, ixN_52, ixN_53, ixN_54, ixN_30, ixN_31, ixN_32, put_same, put_put, true_and, and_true, decide_true, decide_false, Bool.not_true, Bool.not_false, Bool.false_eq_true, if_true, if_false, decide_eq_true_eq, Bool.not_eq_true', decide_eq_false_iff_not, mem_one, ex_one, and_self]
  refine cut_seq (fun ρ T => ∃ a c, IsH a c (fun _ => none) T ∧ ρ = some (.rol (List.map Dv.int script)) :: some (.ref a) :: List.replicate 13 none) (fun N hN => ?_) (fun ρ T hM => ?_)
  · simp only [dSeq, dAsg, dRet, dRetN, dDrop, dRaise, dBreak, dCont, dPar, dAug, dFor, dNext, dSetF, dAugF, dRaiseF, dIfS, dTest, dOp, dVar, dC, dCB, dCons, dNil, dCall, dAndV, dOrV, dNotV, dAndT, dOrT, dNotT, dIf, dTup, dLst, dLstV, dSl, dSlV, rdSlV, oSome, oNone, dNeg, gN, gT, gConsD, gNilD, gSubD, gFldD, dChain, dLc, dBM, isLst, iSeqD, iR1, iR2, iR3, dYes, rdAddV, rdMulV, rdSub, rdDiv, rdMod, rdPow, rdIAdd, rdCmp, rdIsN, isn_non, isn_bl, isn_int, isn_str, isn_ref, isn_tup, isn_rol, isn_obj, rdEqG, rdIx_tup, rdIx_rol, rdIx_put, rdSet, rdLen_tup, rdLen_rol, rdLen_str, rdLen_put, rdInt1, rdInt, rdInt2, rdAppend, rdExt, rdPopAt, rdMaxL, rdMinL, rdListV, rdIsB, isBlV, rdStrI, rdIntS, dFrz, dFld, insOf_put, dMeth, lstOf_rol, lstOf_put, seqOf_tup, seqOf_rol, seqOf_put, frz_tup, frz_rol, frz_int, frz_bl, frz_non, frz_str, frz_obj, startN, wipeD, List.map_cons, List.map_nil, List.length_cons, List.length_nil, Nat.zero_add, Nat.sub_self, Nat.reduceAdd, Nat.reduceSub, List.replicate_succ, List.replicate_zero, List.cons_append, List.nil_append, List.append_nil, List.getElem?_cons_zero, List.getElem?_cons_succ, List.set_cons_zero, List.set_cons_succ, Option.some.injEq, exists_eq_left', DEnds.xd, atI_0, atI_1, atI_2, atI_3, atI_4, atI_5, atI_6, atI_7, ixN_50, ixN_51, ixN_52, ixN_53, ixN_54, ixN_30, ixN_31, ixN_32, put_same, put_put, true_and, and_true, decide_true, decide_false, Bool.not_true, Bool.not_false, Bool.false_eq_true, if_true, if_false, decide_eq_true_eq, Bool.not_eq_true', decide_eq_false_iff_not, mem_one, ex_one, and_self]
    exact ⟨script, rfl, hl, fun a c T _ _ hH => hN _ _ ⟨a, c, hH, rfl⟩⟩
  obtain ⟨a, c, hH, rfl⟩ := hM
  generalize (fun _ => none : Sto) = B at hH
  have vl : ∀ xs : List Int, xs.length ≤ 16777216 → plain 4 (.tup (List.map Dv.int xs)) := fun xs hl => ⟨by rw [List.length_map, sizeLine_eq]; omega, fun x hx => by
    obtain ⟨i, _, rfl⟩ := List.mem_map.mp hx; trivial⟩
  refine cut_seq (fun ρ T => IsH a c B T ∧ ∃ many : Int, 0 ≤ many ∧ many < 4 ∧ ρ = some (.rol (List.map Dv.int script)) :: some (.ref a) :: some (.int many) :: List.replicate 12 none) (fun N hN => ?_) (fun ρ T hM => ?_)
  · simp only [dSeq, dAsg, dRet, dRetN, dDrop, dRaise, dBreak, dCont, dPar, dAug, dFor, dNext, dSetF, dAugF, dRaiseF, dIfS, dTest, dOp, dVar, dC, dCB, dCons, dNil, dCall, dAndV, dOrV, dNotV, dAndT, dOrT, dNotT, dIf, dTup, dLst, dLstV, dSl, dSlV, rdSlV, oSome, oNone, dNeg, gN, gT, gConsD, gNilD, gSubD, gFldD, dChain, dLc, dBM, isLst, iSeqD, iR1, iR2, iR3, dYes, rdAddV, rdMulV, rdSub, rdDiv, rdMod, rdPow, rdIAdd, rdCmp, rdIsN, isn_non, isn_bl, isn_int, isn_str, isn_ref, isn_tup, isn_rol, isn_obj, rdEqG, rdIx_tup, rdIx_rol, rdIx_put, rdSet, rdLen_tup, rdLen_rol, rdLen_str, rdLen_put, rdInt1, rdInt, rdInt2, rdAppend, rdExt, rdPopAt, rdMaxL, rdMinL, rdListV, rdIsB, isBlV, rdStrI, rdIntS, dFrz, dFld, insOf_put, dMeth, lstOf_rol, lstOf_put, seqOf_tup, seqOf_rol, seqOf_put, frz_tup, frz_rol, frz_int, frz_bl, frz_non, frz_str, frz_obj, startN, wipeD, List.map_cons, List.map_nil, List.length_cons, List.length_nil, Nat.zero_add, Nat.sub_self, Nat.reduceAdd, Nat.reduceSub, List.replicate_succ, List.replicate_zero, List.cons_append, List.nil_append, List.append_nil, List.getElem?_cons_zero, List.getElem?_cons_succ, List.set_cons_zero, List.set_cons_succ, Option.some.injEq, exists_eq_left', DEnds.xd, atI_0, atI_1, atI_2, atI_3, atI_4, atI_5, atI_6, atI_7, ixN_50, ixN_51, ixN_52, ixN_53, ixN_54, ixN_30, ixN_31, ixN_32, put_same, put_put, true_and, and_true, decide_true, decide_false, Bool.not_true, Bool.not_false, Bool.false_eq_true, if_true, if_false, decide_eq_true_eq, Bool.not_eq_true', decide_eq_false_iff_not, mem_one, ex_one, and_self]
    exact ask hH fun many T1 hT1 m0 m1 => hN _ _ ⟨hT1, many, m0, m1, rfl⟩
  clear hH
  obtain ⟨hH, many, m0, m1, rfl⟩ := hM
  refine cut_seq (fun ρ T => IsH a c B T ∧ ∃ rs : Runs, runsOk rs ∧ rs.length ≤ 12 ∧ tot rs ≤ 20000 ∧ ρ = some (.rol (List.map Dv.int script)) :: some (.ref a) :: some (.int many) :: some (.rol (rs.map prD)) :: List.replicate 11 none) (fun N hN => ?_) (fun ρ T hM => ?_)
  · simp only [dSeq, dAsg, dRet, dRetN, dDrop, dRaise, dBreak, dCont, dPar, dAug, dFor, dNext, dSetF, dAugF, dRaiseF, dIfS, dTest, dOp, dVar, dC, dCB, dCons, dNil, dCall, dAndV, dOrV, dNotV, dAndT, dOrT, dNotT, dIf, dTup, dLst, dLstV, dSl, dSlV, rdSlV, oSome, oNone, dNeg, gN, gT, gConsD, gNilD, gSubD, gFldD, dChain, dLc, dBM, isLst, iSeqD, iR1, iR2, iR3, dYes, rdAddV, rdMulV, rdSub, rdDiv, rdMod, rdPow, rdIAdd, rdCmp, rdIsN, isn_non, isn_bl, isn_int, isn_str, isn_ref, isn_tup, isn_rol, isn_obj, rdEqG, rdIx_tup, rdIx_rol, rdIx_put, rdSet, rdLen_tup, rdLen_rol, rdLen_str, rdLen_put, rdInt1, rdInt, rdInt2, rdAppend, rdExt, rdPopAt, rdMaxL, rdMinL, rdListV, rdIsB, isBlV, rdStrI, rdIntS, dFrz, dFld, insOf_put, dMeth, lstOf_rol, lstOf_put, seqOf_tup, seqOf_rol, seqOf_put, frz_tup, frz_rol, frz_int, frz_bl, frz_non, frz_str, frz_obj, startN, wipeD, List.map_cons, List.map_nil, List.length_cons, List.length_nil, Nat.zero_add, Nat.sub_self, Nat.reduceAdd, Nat.reduceSub, List.replicate_succ, List.replicate_zero, List.cons_append, List.nil_append, List.append_nil, List.getElem?_cons_zero, List.getElem?_cons_succ, List.set_cons_zero, List.set_cons_succ, Option.some.injEq, exists_eq_left', DEnds.xd, atI_0, atI_1, atI_2, atI_3, atI_4, atI_5, atI_6, atI_7, ixN_50, ixN_51, ixN_52, ixN_53, ixN_54, ixN_30, ixN_31, ixN_32, put_same, put_put, true_and, and_true, decide_true, decide_false, Bool.not_true, Bool.not_false, Bool.false_eq_true, if_true, if_false, decide_eq_true_eq, Bool.not_eq_true', decide_eq_false_iff_not, mem_one, ex_one, and_self]
    exact ⟨a, c, B, rfl, hH, fun rs T2 hT2 g1 g2 g3 g4 => hN _ _ ⟨hT2, rs, g1, g2, g3, rfl⟩⟩
  clear hH
  obtain ⟨hH, rs, g1, g2, g3, rfl⟩ := hM
  have n0 : ∀ p ∈ rs, 0 ≤ p.2 := fun p hp => (g1 p hp).2.2.1
  have eT := expand_tot rs n0
  have eB : By (expand rs) := expand_By fun p hp => ⟨(g1 p hp).1, (g1 p hp).2.1⟩
  refine cut_seq (fun ρ T => IsH a c B T ∧ ∃ xs : List Int, xs.length ≤ 20000 ∧ By xs ∧ ρ = some (.rol (List.map Dv.int script)) :: some (.ref a) :: some (.int many) :: some (.rol (rs.map prD)) :: some (.tup (List.map Dv.int xs)) :: List.replicate 10 none) (fun N hN => ?_) (fun ρ T hM => ?_)
  · simp only [dSeq, dAsg, dRet, dRetN, dDrop, dRaise, dBreak, dCont, dPar, dAug, dFor, dNext, dSetF, dAugF, dRaiseF, dIfS, dTest, dOp, dVar, dC, dCB, dCons, dNil, dCall, dAndV, dOrV, dNotV, dAndT, dOrT, dNotT, dIf, dTup, dLst, dLstV, dSl, dSlV, rdSlV, oSome, oNone, dNeg, gN, gT, gConsD, gNilD, gSubD, gFldD, dChain, dLc, dBM, isLst, iSeqD, iR1, iR2, iR3, dYes, rdAddV, rdMulV, rdSub, rdDiv, rdMod, rdPow, rdIAdd, rdCmp, rdIsN, isn_non, isn_bl, isn_int, isn_str, isn_ref, isn_tup, isn_rol, isn_obj, rdEqG, rdIx_tup, rdIx_rol, rdIx_put, rdSet, rdLen_tup, rdLen_rol, rdLen_str, rdLen_put, rdInt1, rdInt, rdInt2, rdAppend, rdExt, rdPopAt, rdMaxL, rdMinL, rdListV, rdIsB, isBlV, rdStrI, rdIntS, dFrz, dFld, insOf_put, dMeth, lstOf_rol, lstOf_put, seqOf_tup, seqOf_rol, seqOf_put, frz_tup, frz_rol, frz_int, frz_bl, frz_non, frz_str, frz_obj, startN, wipeD, List.map_cons, List.map_nil, List.length_cons, List.length_nil, Nat.zero_add, Nat.sub_self, Nat.reduceAdd, Nat.reduceSub, List.replicate_succ, List.replicate_zero, List.cons_append, List.nil_append, List.append_nil, List.getElem?_cons_zero, List.getElem?_cons_succ, List.set_cons_zero, List.set_cons_succ, Option.some.injEq, exists_eq_left', DEnds.xd, atI_0, atI_1, atI_2, atI_3, atI_4, atI_5, atI_6, atI_7, ixN_50, ixN_51, ixN_52, ixN_53, ixN_54, ixN_30, ixN_31, ixN_32, put_same, put_put, true_and, and_true, decide_true, decide_false, Bool.not_true, Bool.not_false, Bool.false_eq_true, if_true, if_false, decide_eq_true_eq, Bool.not_eq_true', decide_eq_false_iff_not, mem_one, ex_one, and_self]
    exact ⟨rs, rfl, n0, by omega, by omega, hN _ _ ⟨hH, expand rs, by omega, eB, rfl⟩⟩
  clear hH
  obtain ⟨hH, xs, hx, hxB, rfl⟩ := hM
  clear eT eB
  have hrl : (runB (runsF xs)).length ≤ 230000 := by
    have a1 := runB_len (runsF xs)
    have a2 := runsF_len xs
    omega
  have hrB : By (runB (runsF xs)) := runB_By (runsOk_runsF hxB (by omega)) (by have := runsF_len xs; omega)
  have hrow := fun pre tail => parse_row pre tail xs (by omega)
  generalize hD : runB (runsF xs) = due at hrl hrB hrow
  refine cut_seq (fun ρ T => IsH a c B T ∧ ρ = some (.rol (List.map Dv.int script)) :: some (.ref a) :: some (.int many) :: some (.rol (rs.map prD)) :: some (.tup (List.map Dv.int xs)) :: some (.tup (List.map Dv.int due)) :: List.replicate 9 none) (fun N hN => ?_) (fun ρ T hM => ?_)
  · simp only [dSeq, dAsg, dRet, dRetN, dDrop, dRaise, dBreak, dCont, dPar, dAug, dFor, dNext, dSetF, dAugF, dRaiseF, dIfS, dTest, dOp, dVar, dC, dCB, dCons, dNil, dCall, dAndV, dOrV, dNotV, dAndT, dOrT, dNotT, dIf, dTup, dLst, dLstV, dSl, dSlV, rdSlV, oSome, oNone, dNeg, gN, gT, gConsD, gNilD, gSubD, gFldD, dChain, dLc, dBM, isLst, iSeqD, iR1, iR2, iR3, dYes, rdAddV, rdMulV, rdSub, rdDiv, rdMod, rdPow, rdIAdd, rdCmp, rdIsN, isn_non, isn_bl, isn_int, isn_str, isn_ref, isn_tup, isn_rol, isn_obj, rdEqG, rdIx_tup, rdIx_rol, rdIx_put, rdSet, rdLen_tup, rdLen_rol, rdLen_str, rdLen_put, rdInt1, rdInt, rdInt2, rdAppend, rdExt, rdPopAt, rdMaxL, rdMinL, rdListV, rdIsB, isBlV, rdStrI, rdIntS, dFrz, dFld, insOf_put, dMeth, lstOf_rol, lstOf_put, seqOf_tup, seqOf_rol, seqOf_put, frz_tup, frz_rol, frz_int, frz_bl, frz_non, frz_str, frz_obj, startN, wipeD, List.map_cons, List.map_nil, List.length_cons, List.length_nil, Nat.zero_add, Nat.sub_self, Nat.reduceAdd, Nat.reduceSub, List.replicate_succ, List.replicate_zero, List.cons_append, List.nil_append, List.append_nil, List.getElem?_cons_zero, List.getElem?_cons_succ, List.set_cons_zero, List.set_cons_succ, Option.some.injEq, exists_eq_left', DEnds.xd, atI_0, atI_1, atI_2, atI_3, atI_4, atI_5, atI_6, atI_7, ixN_50, ixN_51, ixN_52, ixN_53, ixN_54, ixN_30, ixN_31, ixN_32, put_same, put_put, true_and, and_true, decide_true, decide_false, Bool.not_true, Bool.not_false, Bool.false_eq_true, if_true, if_false, decide_eq_true_eq, Bool.not_eq_true', decide_eq_false_iff_not, mem_one, ex_one, and_self]
    exact go_input_row (by omega) hxB (by rw [hD]; exact hN _ _ ⟨hH, rfl⟩)
  clear hH
  obtain ⟨hH, rfl⟩ := hM
  refine cut_seq (fun ρ T => IsH a c B T ∧ ρ = some (.rol (List.map Dv.int script)) :: some (.ref a) :: some (.int many) :: some (.rol (rs.map prD)) :: some (.tup (List.map Dv.int xs)) :: some (.tup (List.map Dv.int due)) :: some (.tup (List.map Dv.int due)) :: List.replicate 8 none) (fun N hN => ?_) (fun ρ T hM => ?_)
  · simp only [dSeq, dAsg, dRet, dRetN, dDrop, dRaise, dBreak, dCont, dPar, dAug, dFor, dNext, dSetF, dAugF, dRaiseF, dIfS, dTest, dOp, dVar, dC, dCB, dCons, dNil, dCall, dAndV, dOrV, dNotV, dAndT, dOrT, dNotT, dIf, dTup, dLst, dLstV, dSl, dSlV, rdSlV, oSome, oNone, dNeg, gN, gT, gConsD, gNilD, gSubD, gFldD, dChain, dLc, dBM, isLst, iSeqD, iR1, iR2, iR3, dYes, rdAddV, rdMulV, rdSub, rdDiv, rdMod, rdPow, rdIAdd, rdCmp, rdIsN, isn_non, isn_bl, isn_int, isn_str, isn_ref, isn_tup, isn_rol, isn_obj, rdEqG, rdIx_tup, rdIx_rol, rdIx_put, rdSet, rdLen_tup, rdLen_rol, rdLen_str, rdLen_put, rdInt1, rdInt, rdInt2, rdAppend, rdExt, rdPopAt, rdMaxL, rdMinL, rdListV, rdIsB, isBlV, rdStrI, rdIntS, dFrz, dFld, insOf_put, dMeth, lstOf_rol, lstOf_put, seqOf_tup, seqOf_rol, seqOf_put, frz_tup, frz_rol, frz_int, frz_bl, frz_non, frz_str, frz_obj, startN, wipeD, List.map_cons, List.map_nil, List.length_cons, List.length_nil, Nat.zero_add, Nat.sub_self, Nat.reduceAdd, Nat.reduceSub, List.replicate_succ, List.replicate_zero, List.cons_append, List.nil_append, List.append_nil, List.getElem?_cons_zero, List.getElem?_cons_succ, List.set_cons_zero, List.set_cons_succ, Option.some.injEq, exists_eq_left', DEnds.xd, atI_0, atI_1, atI_2, atI_3, atI_4, atI_5, atI_6, atI_7, ixN_50, ixN_51, ixN_52, ixN_53, ixN_54, ixN_30, ixN_31, ixN_32, put_same, put_put, true_and, and_true, decide_true, decide_false, Bool.not_true, Bool.not_false, Bool.false_eq_true, if_true, if_false, decide_eq_true_eq, Bool.not_eq_true', decide_eq_false_iff_not, mem_one, ex_one, and_self]
    exact ⟨xs, rfl, by omega, (by rw [hD]; exact hN _ _ ⟨hH, rfl⟩)⟩
  clear hH
  obtain ⟨hH, rfl⟩ := hM
  refine cut_seq (fun ρ T => IsH a c B T ∧ ρ = some (.rol (List.map Dv.int script)) :: some (.ref a) :: some (.int many) :: some (.rol (rs.map prD)) :: some (.tup (List.map Dv.int xs)) :: some (.tup (List.map Dv.int due)) :: some (.tup (List.map Dv.int due)) :: List.replicate 8 none) (fun N hN => ?_) (fun ρ T hM => ?_)
  · simp only [dSeq, dAsg, dRet, dRetN, dDrop, dRaise, dBreak, dCont, dPar, dAug, dFor, dNext, dSetF, dAugF, dRaiseF, dIfS, dTest, dOp, dVar, dC, dCB, dCons, dNil, dCall, dAndV, dOrV, dNotV, dAndT, dOrT, dNotT, dIf, dTup, dLst, dLstV, dSl, dSlV, rdSlV, oSome, oNone, dNeg, gN, gT, gConsD, gNilD, gSubD, gFldD, dChain, dLc, dBM, isLst, iSeqD, iR1, iR2, iR3, dYes, rdAddV, rdMulV, rdSub, rdDiv, rdMod, rdPow, rdIAdd, rdCmp, rdIsN, isn_non, isn_bl, isn_int, isn_str, isn_ref, isn_tup, isn_rol, isn_obj, rdEqG, rdIx_tup, rdIx_rol, rdIx_put, rdSet, rdLen_tup, rdLen_rol, rdLen_str, rdLen_put, rdInt1, rdInt, rdInt2, rdAppend, rdExt, rdPopAt, rdMaxL, rdMinL, rdListV, rdIsB, isBlV, rdStrI, rdIntS, dFrz, dFld, insOf_put, dMeth, lstOf_rol, lstOf_put, seqOf_tup, seqOf_rol, seqOf_put, frz_tup, frz_rol, frz_int, frz_bl, frz_non, frz_str, frz_obj, startN, wipeD, List.map_cons, List.map_nil, List.length_cons, List.length_nil, Nat.zero_add, Nat.sub_self, Nat.reduceAdd, Nat.reduceSub, List.replicate_succ, List.replicate_zero, List.cons_append, List.nil_append, List.append_nil, List.getElem?_cons_zero, List.getElem?_cons_succ, List.set_cons_zero, List.set_cons_succ, Option.some.injEq, exists_eq_left', DEnds.xd, atI_0, atI_1, atI_2, atI_3, atI_4, atI_5, atI_6, atI_7, ixN_50, ixN_51, ixN_52, ixN_53, ixN_54, ixN_30, ixN_31, ixN_32, put_same, put_put, true_and, and_true, decide_true, decide_false, Bool.not_true, Bool.not_false, Bool.false_eq_true, if_true, if_false, decide_eq_true_eq, Bool.not_eq_true', decide_eq_false_iff_not, mem_one, ex_one, and_self]
    refine is_same (vl _ (by omega)) ?_
    simp only [dSeq, dAsg, dRet, dRetN, dDrop, dRaise, dBreak, dCont, dPar, dAug, dFor, dNext, dSetF, dAugF, dRaiseF, dIfS, dTest, dOp, dVar, dC, dCB, dCons, dNil, dCall, dAndV, dOrV, dNotV, dAndT, dOrT, dNotT, dIf, dTup, dLst, dLstV, dSl, dSlV, rdSlV, oSome, oNone, dNeg, gN, gT, gConsD, gNilD, gSubD, gFldD, dChain, dLc, dBM, isLst, iSeqD, iR1, iR2, iR3, dYes, rdAddV, rdMulV, rdSub, rdDiv, rdMod, rdPow, rdIAdd, rdCmp, rdIsN, isn_non, isn_bl, isn_int, isn_str, isn_ref, isn_tup, isn_rol, isn_obj, rdEqG, rdIx_tup, rdIx_rol, rdIx_put, rdSet, rdLen_tup, rdLen_rol, rdLen_str, rdLen_put, rdInt1, rdInt, rdInt2, rdAppend, rdExt, rdPopAt, rdMaxL, rdMinL, rdListV, rdIsB, isBlV, rdStrI, rdIntS, dFrz, dFld, insOf_put, dMeth, lstOf_rol, lstOf_put, seqOf_tup, seqOf_rol, seqOf_put, frz_tup, frz_rol, frz_int, frz_bl, frz_non, frz_str, frz_obj, startN, wipeD, List.map_cons, List.map_nil, List.length_cons, List.length_nil, Nat.zero_add, Nat.sub_self, Nat.reduceAdd, Nat.reduceSub, List.replicate_succ, List.replicate_zero, List.cons_append, List.nil_append, List.append_nil, List.getElem?_cons_zero, List.getElem?_cons_succ, List.set_cons_zero, List.set_cons_succ, Option.some.injEq, exists_eq_left', DEnds.xd, atI_0, atI_1, atI_2, atI_3, atI_4, atI_5, atI_6, atI_7, ixN_50, ixN_51, ixN_52, ixN_53, ixN_54, ixN_30, ixN_31, ixN_32, put_same, put_put, true_and, and_true, decide_true, decide_false, Bool.not_true, Bool.not_false, Bool.false_eq_true, if_true, if_false, decide_eq_true_eq, Bool.not_eq_true', decide_eq_false_iff_not, mem_one, ex_one, and_self]
    exact hN _ _ ⟨hH, rfl⟩
  clear hH
  obtain ⟨hH, rfl⟩ := hM
  refine cut_seq (fun ρ T => IsH a c B T ∧ ∃ ah : List Int, By ah ∧ ah.length ≤ 5 ∧ ρ = some (.rol (List.map Dv.int script)) :: some (.ref a) :: some (.int many) :: some (.rol (rs.map prD)) :: some (.tup (List.map Dv.int xs)) :: some (.tup (List.map Dv.int due)) :: some (.tup (List.map Dv.int due)) :: some (.tup (List.map Dv.int ah)) :: List.replicate 7 none) (fun N hN => ?_) (fun ρ T hM => ?_)
  · simp only [dSeq, dAsg, dRet, dRetN, dDrop, dRaise, dBreak, dCont, dPar, dAug, dFor, dNext, dSetF, dAugF, dRaiseF, dIfS, dTest, dOp, dVar, dC, dCB, dCons, dNil, dCall, dAndV, dOrV, dNotV, dAndT, dOrT, dNotT, dIf, dTup, dLst, dLstV, dSl, dSlV, rdSlV, oSome, oNone, dNeg, gN, gT, gConsD, gNilD, gSubD, gFldD, dChain, dLc, dBM, isLst, iSeqD, iR1, iR2, iR3, dYes, rdAddV, rdMulV, rdSub, rdDiv, rdMod, rdPow, rdIAdd, rdCmp, rdIsN, isn_non, isn_bl, isn_int, isn_str, isn_ref, isn_tup, isn_rol, isn_obj, rdEqG, rdIx_tup, rdIx_rol, rdIx_put, rdSet, rdLen_tup, rdLen_rol, rdLen_str, rdLen_put, rdInt1, rdInt, rdInt2, rdAppend, rdExt, rdPopAt, rdMaxL, rdMinL, rdListV, rdIsB, isBlV, rdStrI, rdIntS, dFrz, dFld, insOf_put, dMeth, lstOf_rol, lstOf_put, seqOf_tup, seqOf_rol, seqOf_put, frz_tup, frz_rol, frz_int, frz_bl, frz_non, frz_str, frz_obj, startN, wipeD, List.map_cons, List.map_nil, List.length_cons, List.length_nil, Nat.zero_add, Nat.sub_self, Nat.reduceAdd, Nat.reduceSub, List.replicate_succ, List.replicate_zero, List.cons_append, List.nil_append, List.append_nil, List.getElem?_cons_zero, List.getElem?_cons_succ, List.set_cons_zero, List.set_cons_succ, Option.some.injEq, exists_eq_left', DEnds.xd, atI_0, atI_1, atI_2, atI_3, atI_4, atI_5, atI_6, atI_7, ixN_50, ixN_51, ixN_52, ixN_53, ixN_54, ixN_30, ixN_31, ixN_32, put_same, put_put, true_and, and_true, decide_true, decide_false, Bool.not_true, Bool.not_false, Bool.false_eq_true, if_true, if_false, decide_eq_true_eq, Bool.not_eq_true', decide_eq_false_iff_not, mem_one, ex_one, and_self]
    exact ⟨a, c, B, 5, rfl, hH, by decide, by decide, fun ns T hT b1 b2 => hN _ _ ⟨hT, ns, b1, by omega, rfl⟩⟩
  clear hH
  obtain ⟨hH, ah, ahB, ahl, rfl⟩ := hM
  refine cut_seq (fun ρ T => IsH a c B T ∧ ∃ be : List Int, By be ∧ be.length ≤ 5 ∧ ρ = some (.rol (List.map Dv.int script)) :: some (.ref a) :: some (.int many) :: some (.rol (rs.map prD)) :: some (.tup (List.map Dv.int xs)) :: some (.tup (List.map Dv.int due)) :: some (.tup (List.map Dv.int due)) :: some (.tup (List.map Dv.int ah)) :: some (.tup (List.map Dv.int be)) :: List.replicate 6 none) (fun N hN => ?_) (fun ρ T hM => ?_)
  · simp only [dSeq, dAsg, dRet, dRetN, dDrop, dRaise, dBreak, dCont, dPar, dAug, dFor, dNext, dSetF, dAugF, dRaiseF, dIfS, dTest, dOp, dVar, dC, dCB, dCons, dNil, dCall, dAndV, dOrV, dNotV, dAndT, dOrT, dNotT, dIf, dTup, dLst, dLstV, dSl, dSlV, rdSlV, oSome, oNone, dNeg, gN, gT, gConsD, gNilD, gSubD, gFldD, dChain, dLc, dBM, isLst, iSeqD, iR1, iR2, iR3, dYes, rdAddV, rdMulV, rdSub, rdDiv, rdMod, rdPow, rdIAdd, rdCmp, rdIsN, isn_non, isn_bl, isn_int, isn_str, isn_ref, isn_tup, isn_rol, isn_obj, rdEqG, rdIx_tup, rdIx_rol, rdIx_put, rdSet, rdLen_tup, rdLen_rol, rdLen_str, rdLen_put, rdInt1, rdInt, rdInt2, rdAppend, rdExt, rdPopAt, rdMaxL, rdMinL, rdListV, rdIsB, isBlV, rdStrI, rdIntS, dFrz, dFld, insOf_put, dMeth, lstOf_rol, lstOf_put, seqOf_tup, seqOf_rol, seqOf_put, frz_tup, frz_rol, frz_int, frz_bl, frz_non, frz_str, frz_obj, startN, wipeD, List.map_cons, List.map_nil, List.length_cons, List.length_nil, Nat.zero_add, Nat.sub_self, Nat.reduceAdd, Nat.reduceSub, List.replicate_succ, List.replicate_zero, List.cons_append, List.nil_append, List.append_nil, List.getElem?_cons_zero, List.getElem?_cons_succ, List.set_cons_zero, List.set_cons_succ, Option.some.injEq, exists_eq_left', DEnds.xd, atI_0, atI_1, atI_2, atI_3, atI_4, atI_5, atI_6, atI_7, ixN_50, ixN_51, ixN_52, ixN_53, ixN_54, ixN_30, ixN_31, ixN_32, put_same, put_put, true_and, and_true, decide_true, decide_false, Bool.not_true, Bool.not_false, Bool.false_eq_true, if_true, if_false, decide_eq_true_eq, Bool.not_eq_true', decide_eq_false_iff_not, mem_one, ex_one, and_self]
    exact ⟨a, c, B, 5, rfl, hH, by decide, by decide, fun ns T hT b1 b2 => hN _ _ ⟨hT, ns, b1, by omega, rfl⟩⟩
  clear hH
  obtain ⟨hH, be, beB, bel, rfl⟩ := hM
  have sum3 : ∀ ys : List Int, ys.length ≤ 230012 → By ys → (List.map Dv.int ah).length + (List.map Dv.int ys).length ≤ sizeLine ∧ (List.map Dv.int ah ++ List.map Dv.int ys).length + (List.map Dv.int be).length ≤ sizeLine ∧ List.map Dv.int ah ++ List.map Dv.int ys ++ List.map Dv.int be = List.map Dv.int (ah ++ ys ++ be) ∧ rowOk (ah ++ ys ++ be) := fun ys hl hB => by
    refine ⟨?_, ?_, by simp, ?_, (ahB.app hB).app beB⟩
    · simp only [List.length_map]; rw [sizeLine_eq]; omega
    · simp only [List.length_map, List.length_append]; rw [sizeLine_eq]; omega
    · simp only [List.length_append]; omega
  refine cut_seq (fun ρ T => IsH a c B T ∧ ρ = some (.rol (List.map Dv.int script)) :: some (.ref a) :: some (.int many) :: some (.rol (rs.map prD)) :: some (.tup (List.map Dv.int xs)) :: some (.tup (List.map Dv.int due)) :: some (.tup (List.map Dv.int due)) :: some (.tup (List.map Dv.int ah)) :: some (.tup (List.map Dv.int be)) :: List.replicate 6 none) (fun N hN => ?_) (fun ρ T hM => ?_)
  · simp only [dSeq, dAsg, dRet, dRetN, dDrop, dRaise, dBreak, dCont, dPar, dAug, dFor, dNext, dSetF, dAugF, dRaiseF, dIfS, dTest, dOp, dVar, dC, dCB, dCons, dNil, dCall, dAndV, dOrV, dNotV, dAndT, dOrT, dNotT, dIf, dTup, dLst, dLstV, dSl, dSlV, rdSlV, oSome, oNone, dNeg, gN, gT, gConsD, gNilD, gSubD, gFldD, dChain, dLc, dBM, isLst, iSeqD, iR1, iR2, iR3, dYes, rdAddV, rdMulV, rdSub, rdDiv, rdMod, rdPow, rdIAdd, rdCmp, rdIsN, isn_non, isn_bl, isn_int, isn_str, isn_ref, isn_tup, isn_rol, isn_obj, rdEqG, rdIx_tup, rdIx_rol, rdIx_put, rdSet, rdLen_tup, rdLen_rol, rdLen_str, rdLen_put, rdInt1, rdInt, rdInt2, rdAppend, rdExt, rdPopAt, rdMaxL, rdMinL, rdListV, rdIsB, isBlV, rdStrI, rdIntS, dFrz, dFld, insOf_put, dMeth, lstOf_rol, lstOf_put, seqOf_tup, seqOf_rol, seqOf_put, frz_tup, frz_rol, frz_int, frz_bl, frz_non, frz_str, frz_obj, startN, wipeD, List.map_cons, List.map_nil, List.length_cons, List.length_nil, Nat.zero_add, Nat.sub_self, Nat.reduceAdd, Nat.reduceSub, List.replicate_succ, List.replicate_zero, List.cons_append, List.nil_append, List.append_nil, List.getElem?_cons_zero, List.getElem?_cons_succ, List.set_cons_zero, List.set_cons_succ, Option.some.injEq, exists_eq_left', DEnds.xd, atI_0, atI_1, atI_2, atI_3, atI_4, atI_5, atI_6, atI_7, ixN_50, ixN_51, ixN_52, ixN_53, ixN_54, ixN_30, ixN_31, ixN_32, put_same, put_put, true_and, and_true, decide_true, decide_false, Bool.not_true, Bool.not_false, Bool.false_eq_true, if_true, if_false, decide_eq_true_eq, Bool.not_eq_true', decide_eq_false_iff_not, mem_one, ex_one, and_self]
    obtain ⟨z1, z2, z3, z4⟩ := sum3 due (by omega) hrB
    refine ⟨z1, z2, ?_⟩
    rw [z3]
    refine ⟨_, _, rfl, z4, by simp, ?_⟩
    rw [List.length_map, hrow]
    unfold rtD
    simp only [dSeq, dAsg, dRet, dRetN, dDrop, dRaise, dBreak, dCont, dPar, dAug, dFor, dNext, dSetF, dAugF, dRaiseF, dIfS, dTest, dOp, dVar, dC, dCB, dCons, dNil, dCall, dAndV, dOrV, dNotV, dAndT, dOrT, dNotT, dIf, dTup, dLst, dLstV, dSl, dSlV, rdSlV, oSome, oNone, dNeg, gN, gT, gConsD, gNilD, gSubD, gFldD, dChain, dLc, dBM, isLst, iSeqD, iR1, iR2, iR3, dYes, rdAddV, rdMulV, rdSub, rdDiv, rdMod, rdPow, rdIAdd, rdCmp, rdIsN, isn_non, isn_bl, isn_int, isn_str, isn_ref, isn_tup, isn_rol, isn_obj, rdEqG, rdIx_tup, rdIx_rol, rdIx_put, rdSet, rdLen_tup, rdLen_rol, rdLen_str, rdLen_put, rdInt1, rdInt, rdInt2, rdAppend, rdExt, rdPopAt, rdMaxL, rdMinL, rdListV, rdIsB, isBlV, rdStrI, rdIntS, dFrz, dFld, insOf_put, dMeth, lstOf_rol, lstOf_put, seqOf_tup, seqOf_rol, seqOf_put, frz_tup, frz_rol, frz_int, frz_bl, frz_non, frz_str, frz_obj, startN, wipeD, List.map_cons, List.map_nil, List.length_cons, List.length_nil, Nat.zero_add, Nat.sub_self, Nat.reduceAdd, Nat.reduceSub, List.replicate_succ, List.replicate_zero, List.cons_append, List.nil_append, List.append_nil, List.getElem?_cons_zero, List.getElem?_cons_succ, List.set_cons_zero, List.set_cons_succ, Option.some.injEq, exists_eq_left', DEnds.xd, atI_0, atI_1, atI_2, atI_3, atI_4, atI_5, atI_6, atI_7, ixN_50, ixN_51, ixN_52, ixN_53, ixN_54, ixN_30, ixN_31, ixN_32, put_same, put_put, true_and, and_true, decide_true, decide_false, Bool.not_true, Bool.not_false, Bool.false_eq_true, if_true, if_false, decide_eq_true_eq, Bool.not_eq_true', decide_eq_false_iff_not, mem_one, ex_one, and_self]
    rw [List.length_map, show ((ah.length : Int) + (due.length : Int)) = ((ah.length + due.length : Nat) : Int) by omega]
    have c1 : clean 5 (.tup [.str (Str.ofString "told"), .tup [.tup (List.map Dv.int xs), .int ((ah.length + due.length : Nat) : Int)]]) := clean_cons (by unfold clean; decide +kernel) (clean_cons (clean_cons clean_ints (clean_cons trivial clean_tup0)) clean_tup0)
    refine ⟨slK, slK, ⟨shp_clean c1, shp_clean c1⟩, ?_⟩
    unfold VD.valOf
    dsimp only
    rw [eqv_same c1, if_neg (by decide)]
    exact hN _ _ ⟨hH, rfl⟩
  clear hH
  obtain ⟨hH, rfl⟩ := hM
  refine cut_seq (fun ρ T => IsH a c B T ∧ ∃ y5 y9 : Option Dv, ρ = some (.rol (List.map Dv.int script)) :: some (.ref a) :: some (.int many) :: some (.rol (rs.map prD)) :: some (.tup (List.map Dv.int xs)) :: y5 :: some (.tup (List.map Dv.int due)) :: some (.tup (List.map Dv.int ah)) :: some (.tup (List.map Dv.int be)) :: y9 :: List.replicate 5 none) (fun N hN => ?_) (fun ρ T hM => ?_)
  · simp only [dSeq, dAsg, dRet, dRetN, dDrop, dRaise, dBreak, dCont, dPar, dAug, dFor, dNext, dSetF, dAugF, dRaiseF, dIfS, dTest, dOp, dVar, dC, dCB, dCons, dNil, dCall, dAndV, dOrV, dNotV, dAndT, dOrT, dNotT, dIf, dTup, dLst, dLstV, dSl, dSlV, rdSlV, oSome, oNone, dNeg, gN, gT, gConsD, gNilD, gSubD, gFldD, dChain, dLc, dBM, isLst, iSeqD, iR1, iR2, iR3, dYes, rdAddV, rdMulV, rdSub, rdDiv, rdMod, rdPow, rdIAdd, rdCmp, rdIsN, isn_non, isn_bl, isn_int, isn_str, isn_ref, isn_tup, isn_rol, isn_obj, rdEqG, rdIx_tup, rdIx_rol, rdIx_put, rdSet, rdLen_tup, rdLen_rol, rdLen_str, rdLen_put, rdInt1, rdInt, rdInt2, rdAppend, rdExt, rdPopAt, rdMaxL, rdMinL, rdListV, rdIsB, isBlV, rdStrI, rdIntS, dFrz, dFld, insOf_put, dMeth, lstOf_rol, lstOf_put, seqOf_tup, seqOf_rol, seqOf_put, frz_tup, frz_rol, frz_int, frz_bl, frz_non, frz_str, frz_obj, startN, wipeD, List.map_cons, List.map_nil, List.length_cons, List.length_nil, Nat.zero_add, Nat.sub_self, Nat.reduceAdd, Nat.reduceSub, List.replicate_succ, List.replicate_zero, List.cons_append, List.nil_append, List.append_nil, List.getElem?_cons_zero, List.getElem?_cons_succ, List.set_cons_zero, List.set_cons_succ, Option.some.injEq, exists_eq_left', DEnds.xd, atI_0, atI_1, atI_2, atI_3, atI_4, atI_5, atI_6, atI_7, ixN_50, ixN_51, ixN_52, ixN_53, ixN_54, ixN_30, ixN_31, ixN_32, put_same, put_put, true_and, and_true, decide_true, decide_false, Bool.not_true, Bool.not_false, Bool.false_eq_true, if_true, if_false, decide_eq_true_eq, Bool.not_eq_true', decide_eq_false_iff_not, mem_one, ex_one, and_self]
    refine for_go (fun j ρ T => IsH a c B T ∧ ∃ (ys : List Int) (y9 : Option Dv), ys.length ≤ 230000 + 4 * j ∧ By ys ∧ ρ = some (.rol (List.map Dv.int script)) :: some (.ref a) :: some (.int many) :: some (.rol (rs.map prD)) :: some (.tup (List.map Dv.int xs)) :: some (.tup (List.map Dv.int ys)) :: some (.tup (List.map Dv.int due)) :: some (.tup (List.map Dv.int ah)) :: some (.tup (List.map Dv.int be)) :: y9 :: List.replicate 5 none)
      ⟨hH, due, _, by omega, hrB, rfl⟩ (fun _ _ _ _ _ => trivial) (fun j z ρ T hz hw => ?_) fun ρ T hw => ?_
    · obtain ⟨hT, ys, y9, hyl, hyB, rfl⟩ := hw
      have hj := (rangeL_mem hz).1
      have hj3 : j < 3 := by omega
      simp only [dSeq, dAsg, dRet, dRetN, dDrop, dRaise, dBreak, dCont, dPar, dAug, dFor, dNext, dSetF, dAugF, dRaiseF, dIfS, dTest, dOp, dVar, dC, dCB, dCons, dNil, dCall, dAndV, dOrV, dNotV, dAndT, dOrT, dNotT, dIf, dTup, dLst, dLstV, dSl, dSlV, rdSlV, oSome, oNone, dNeg, gN, gT, gConsD, gNilD, gSubD, gFldD, dChain, dLc, dBM, isLst, iSeqD, iR1, iR2, iR3, dYes, rdAddV, rdMulV, rdSub, rdDiv, rdMod, rdPow, rdIAdd, rdCmp, rdIsN, isn_non, isn_bl, isn_int, isn_str, isn_ref, isn_tup, isn_rol, isn_obj, rdEqG, rdIx_tup, rdIx_rol, rdIx_put, rdSet, rdLen_tup, rdLen_rol, rdLen_str, rdLen_put, rdInt1, rdInt, rdInt2, rdAppend, rdExt, rdPopAt, rdMaxL, rdMinL, rdListV, rdIsB, isBlV, rdStrI, rdIntS, dFrz, dFld, insOf_put, dMeth, lstOf_rol, lstOf_put, seqOf_tup, seqOf_rol, seqOf_put, frz_tup, frz_rol, frz_int, frz_bl, frz_non, frz_str, frz_obj, startN, wipeD, List.map_cons, List.map_nil, List.length_cons, List.length_nil, Nat.zero_add, Nat.sub_self, Nat.reduceAdd, Nat.reduceSub, List.replicate_succ, List.replicate_zero, List.cons_append, List.nil_append, List.append_nil, List.getElem?_cons_zero, List.getElem?_cons_succ, List.set_cons_zero, List.set_cons_succ, Option.some.injEq, exists_eq_left', DEnds.xd, atI_0, atI_1, atI_2, atI_3, atI_4, atI_5, atI_6, atI_7, ixN_50, ixN_51, ixN_52, ixN_53, ixN_54, ixN_30, ixN_31, ixN_32, put_same, put_put, true_and, and_true, decide_true, decide_false, Bool.not_true, Bool.not_false, Bool.false_eq_true, if_true, if_false, decide_eq_true_eq, Bool.not_eq_true', decide_eq_false_iff_not, mem_one, ex_one, and_self]
      refine ⟨a, c, B, ys, rfl, hT, hyB, by omega, fun zs T2 hT2 hzB hzl => ?_⟩
      simp only [dSeq, dAsg, dRet, dRetN, dDrop, dRaise, dBreak, dCont, dPar, dAug, dFor, dNext, dSetF, dAugF, dRaiseF, dIfS, dTest, dOp, dVar, dC, dCB, dCons, dNil, dCall, dAndV, dOrV, dNotV, dAndT, dOrT, dNotT, dIf, dTup, dLst, dLstV, dSl, dSlV, rdSlV, oSome, oNone, dNeg, gN, gT, gConsD, gNilD, gSubD, gFldD, dChain, dLc, dBM, isLst, iSeqD, iR1, iR2, iR3, dYes, rdAddV, rdMulV, rdSub, rdDiv, rdMod, rdPow, rdIAdd, rdCmp, rdIsN, isn_non, isn_bl, isn_int, isn_str, isn_ref, isn_tup, isn_rol, isn_obj, rdEqG, rdIx_tup, rdIx_rol, rdIx_put, rdSet, rdLen_tup, rdLen_rol, rdLen_str, rdLen_put, rdInt1, rdInt, rdInt2, rdAppend, rdExt, rdPopAt, rdMaxL, rdMinL, rdListV, rdIsB, isBlV, rdStrI, rdIntS, dFrz, dFld, insOf_put, dMeth, lstOf_rol, lstOf_put, seqOf_tup, seqOf_rol, seqOf_put, frz_tup, frz_rol, frz_int, frz_bl, frz_non, frz_str, frz_obj, startN, wipeD, List.map_cons, List.map_nil, List.length_cons, List.length_nil, Nat.zero_add, Nat.sub_self, Nat.reduceAdd, Nat.reduceSub, List.replicate_succ, List.replicate_zero, List.cons_append, List.nil_append, List.append_nil, List.getElem?_cons_zero, List.getElem?_cons_succ, List.set_cons_zero, List.set_cons_succ, Option.some.injEq, exists_eq_left', DEnds.xd, atI_0, atI_1, atI_2, atI_3, atI_4, atI_5, atI_6, atI_7, ixN_50, ixN_51, ixN_52, ixN_53, ixN_54, ixN_30, ixN_31, ixN_32, put_same, put_put, true_and, and_true, decide_true, decide_false, Bool.not_true, Bool.not_false, Bool.false_eq_true, if_true, if_false, decide_eq_true_eq, Bool.not_eq_true', decide_eq_false_iff_not, mem_one, ex_one, and_self]
      obtain ⟨z1, z2, z3, z4⟩ := sum3 zs (by omega) hzB
      refine ⟨z1, z2, ?_⟩
      rw [z3]
      refine ⟨_, _, rfl, z4, by simp, ?_⟩
      simp only [dSeq, dAsg, dRet, dRetN, dDrop, dRaise, dBreak, dCont, dPar, dAug, dFor, dNext, dSetF, dAugF, dRaiseF, dIfS, dTest, dOp, dVar, dC, dCB, dCons, dNil, dCall, dAndV, dOrV, dNotV, dAndT, dOrT, dNotT, dIf, dTup, dLst, dLstV, dSl, dSlV, rdSlV, oSome, oNone, dNeg, gN, gT, gConsD, gNilD, gSubD, gFldD, dChain, dLc, dBM, isLst, iSeqD, iR1, iR2, iR3, dYes, rdAddV, rdMulV, rdSub, rdDiv, rdMod, rdPow, rdIAdd, rdCmp, rdIsN, isn_non, isn_bl, isn_int, isn_str, isn_ref, isn_tup, isn_rol, isn_obj, rdEqG, rdIx_tup, rdIx_rol, rdIx_put, rdSet, rdLen_tup, rdLen_rol, rdLen_str, rdLen_put, rdInt1, rdInt, rdInt2, rdAppend, rdExt, rdPopAt, rdMaxL, rdMinL, rdListV, rdIsB, isBlV, rdStrI, rdIntS, dFrz, dFld, insOf_put, dMeth, lstOf_rol, lstOf_put, seqOf_tup, seqOf_rol, seqOf_put, frz_tup, frz_rol, frz_int, frz_bl, frz_non, frz_str, frz_obj, startN, wipeD, List.map_cons, List.map_nil, List.length_cons, List.length_nil, Nat.zero_add, Nat.sub_self, Nat.reduceAdd, Nat.reduceSub, List.replicate_succ, List.replicate_zero, List.cons_append, List.nil_append, List.append_nil, List.getElem?_cons_zero, List.getElem?_cons_succ, List.set_cons_zero, List.set_cons_succ, Option.some.injEq, exists_eq_left', DEnds.xd, atI_0, atI_1, atI_2, atI_3, atI_4, atI_5, atI_6, atI_7, ixN_50, ixN_51, ixN_52, ixN_53, ixN_54, ixN_30, ixN_31, ixN_32, put_same, put_put, true_and, and_true, decide_true, decide_false, Bool.not_true, Bool.not_false, Bool.false_eq_true, if_true, if_false, decide_eq_true_eq, Bool.not_eq_true', decide_eq_false_iff_not, mem_one, ex_one, and_self]
      exact ⟨hT2, zs, _, by omega, hzB, rfl⟩
    · obtain ⟨hT, ys, y9, hyl, hyB, rfl⟩ := hw
      exact hN _ _ ⟨hT, _, _, rfl⟩
  clear hH
  obtain ⟨hH, y5, y9, rfl⟩ := hM
  refine cut_seq (fun ρ T => IsH a c B T ∧ ∃ rs2 : Runs, runsOk rs2 ∧ rs2.length ≤ 12 ∧ ρ = some (.rol (List.map Dv.int script)) :: some (.ref a) :: some (.int many) :: some (.rol (rs.map prD)) :: some (.tup (List.map Dv.int xs)) :: y5 :: some (.tup (List.map Dv.int due)) :: some (.tup (List.map Dv.int ah)) :: some (.tup (List.map Dv.int be)) :: y9 :: some (.rol (rs2.map prD)) :: List.replicate 4 none) (fun N hN => ?_) (fun ρ T hM => ?_)
  · simp only [dSeq, dAsg, dRet, dRetN, dDrop, dRaise, dBreak, dCont, dPar, dAug, dFor, dNext, dSetF, dAugF, dRaiseF, dIfS, dTest, dOp, dVar, dC, dCB, dCons, dNil, dCall, dAndV, dOrV, dNotV, dAndT, dOrT, dNotT, dIf, dTup, dLst, dLstV, dSl, dSlV, rdSlV, oSome, oNone, dNeg, gN, gT, gConsD, gNilD, gSubD, gFldD, dChain, dLc, dBM, isLst, iSeqD, iR1, iR2, iR3, dYes, rdAddV, rdMulV, rdSub, rdDiv, rdMod, rdPow, rdIAdd, rdCmp, rdIsN, isn_non, isn_bl, isn_int, isn_str, isn_ref, isn_tup, isn_rol, isn_obj, rdEqG, rdIx_tup, rdIx_rol, rdIx_put, rdSet, rdLen_tup, rdLen_rol, rdLen_str, rdLen_put, rdInt1, rdInt, rdInt2, rdAppend, rdExt, rdPopAt, rdMaxL, rdMinL, rdListV, rdIsB, isBlV, rdStrI, rdIntS, dFrz, dFld, insOf_put, dMeth, lstOf_rol, lstOf_put, seqOf_tup, seqOf_rol, seqOf_put, frz_tup, frz_rol, frz_int, frz_bl, frz_non, frz_str, frz_obj, startN, wipeD, List.map_cons, List.map_nil, List.length_cons, List.length_nil, Nat.zero_add, Nat.sub_self, Nat.reduceAdd, Nat.reduceSub, List.replicate_succ, List.replicate_zero, List.cons_append, List.nil_append, List.append_nil, List.getElem?_cons_zero, List.getElem?_cons_succ, List.set_cons_zero, List.set_cons_succ, Option.some.injEq, exists_eq_left', DEnds.xd, atI_0, atI_1, atI_2, atI_3, atI_4, atI_5, atI_6, atI_7, ixN_50, ixN_51, ixN_52, ixN_53, ixN_54, ixN_30, ixN_31, ixN_32, put_same, put_put, true_and, and_true, decide_true, decide_false, Bool.not_true, Bool.not_false, Bool.false_eq_true, if_true, if_false, decide_eq_true_eq, Bool.not_eq_true', decide_eq_false_iff_not, mem_one, ex_one, and_self]
    refine lcV_filter few (fun d => d) (by rw [List.length_map, sizeLine_eq]; omega) (fun _ _ _ => trivial) (fun x hx T2 K2 N2 _ k1 k2 => ?_) ?_
    · obtain ⟨q, hq, rfl⟩ := List.mem_map.mp hx
      unfold prD at k1 k2 ⊢
      unfold few at k1 k2
      dsimp only at k1 k2
      simp only [dSeq, dAsg, dRet, dRetN, dDrop, dRaise, dBreak, dCont, dPar, dAug, dFor, dNext, dSetF, dAugF, dRaiseF, dIfS, dTest, dOp, dVar, dC, dCB, dCons, dNil, dCall, dAndV, dOrV, dNotV, dAndT, dOrT, dNotT, dIf, dTup, dLst, dLstV, dSl, dSlV, rdSlV, oSome, oNone, dNeg, gN, gT, gConsD, gNilD, gSubD, gFldD, dChain, dLc, dBM, isLst, iSeqD, iR1, iR2, iR3, dYes, rdAddV, rdMulV, rdSub, rdDiv, rdMod, rdPow, rdIAdd, rdCmp, rdIsN, isn_non, isn_bl, isn_int, isn_str, isn_ref, isn_tup, isn_rol, isn_obj, rdEqG, rdIx_tup, rdIx_rol, rdIx_put, rdSet, rdLen_tup, rdLen_rol, rdLen_str, rdLen_put, rdInt1, rdInt, rdInt2, rdAppend, rdExt, rdPopAt, rdMaxL, rdMinL, rdListV, rdIsB, isBlV, rdStrI, rdIntS, dFrz, dFld, insOf_put, dMeth, lstOf_rol, lstOf_put, seqOf_tup, seqOf_rol, seqOf_put, frz_tup, frz_rol, frz_int, frz_bl, frz_non, frz_str, frz_obj, startN, wipeD, List.map_cons, List.map_nil, List.length_cons, List.length_nil, Nat.zero_add, Nat.sub_self, Nat.reduceAdd, Nat.reduceSub, List.replicate_succ, List.replicate_zero, List.cons_append, List.nil_append, List.append_nil, List.getElem?_cons_zero, List.getElem?_cons_succ, List.set_cons_zero, List.set_cons_succ, Option.some.injEq, exists_eq_left', DEnds.xd, atI_0, atI_1, atI_2, atI_3, atI_4, atI_5, atI_6, atI_7, ixN_50, ixN_51, ixN_52, ixN_53, ixN_54, ixN_30, ixN_31, ixN_32, put_same, put_put, true_and, and_true, decide_true, decide_false, Bool.not_true, Bool.not_false, Bool.false_eq_true, if_true, if_false, decide_eq_true_eq, Bool.not_eq_true', decide_eq_false_iff_not, mem_one, ex_one, and_self]
      split
      · rename_i hh
        exact ⟨slK, k1 (decide_eq_true hh)⟩
      · rename_i hh
        exact k2 (decide_eq_false hh)
    · rw [few_map]
      exact hN _ _ ⟨hH, _, fun p hp => g1 p (List.mem_filter.mp hp).1, Nat.le_trans (List.length_filter_le _ _) g2, rfl⟩
  clear hH
  obtain ⟨hH, rs2, f1, f2, rfl⟩ := hM
  refine cut_seq (fun ρ T => IsH a c B T ∧ ρ = some (.rol (List.map Dv.int script)) :: some (.ref a) :: some (.int many) :: some (.rol (rs.map prD)) :: some (.tup (List.map Dv.int xs)) :: y5 :: some (.tup (List.map Dv.int due)) :: some (.tup (List.map Dv.int ah)) :: some (.tup (List.map Dv.int be)) :: y9 :: some (.rol (rs2.map prD)) :: List.replicate 4 none) (fun N hN => ?_) (fun ρ T hM => ?_)
  · simp only [dSeq, dAsg, dRet, dRetN, dDrop, dRaise, dBreak, dCont, dPar, dAug, dFor, dNext, dSetF, dAugF, dRaiseF, dIfS, dTest, dOp, dVar, dC, dCB, dCons, dNil, dCall, dAndV, dOrV, dNotV, dAndT, dOrT, dNotT, dIf, dTup, dLst, dLstV, dSl, dSlV, rdSlV, oSome, oNone, dNeg, gN, gT, gConsD, gNilD, gSubD, gFldD, dChain, dLc, dBM, isLst, iSeqD, iR1, iR2, iR3, dYes, rdAddV, rdMulV, rdSub, rdDiv, rdMod, rdPow, rdIAdd, rdCmp, rdIsN, isn_non, isn_bl, isn_int, isn_str, isn_ref, isn_tup, isn_rol, isn_obj, rdEqG, rdIx_tup, rdIx_rol, rdIx_put, rdSet, rdLen_tup, rdLen_rol, rdLen_str, rdLen_put, rdInt1, rdInt, rdInt2, rdAppend, rdExt, rdPopAt, rdMaxL, rdMinL, rdListV, rdIsB, isBlV, rdStrI, rdIntS, dFrz, dFld, insOf_put, dMeth, lstOf_rol, lstOf_put, seqOf_tup, seqOf_rol, seqOf_put, frz_tup, frz_rol, frz_int, frz_bl, frz_non, frz_str, frz_obj, startN, wipeD, List.map_cons, List.map_nil, List.length_cons, List.length_nil, Nat.zero_add, Nat.sub_self, Nat.reduceAdd, Nat.reduceSub, List.replicate_succ, List.replicate_zero, List.cons_append, List.nil_append, List.append_nil, List.getElem?_cons_zero, List.getElem?_cons_succ, List.set_cons_zero, List.set_cons_succ, Option.some.injEq, exists_eq_left', DEnds.xd, atI_0, atI_1, atI_2, atI_3, atI_4, atI_5, atI_6, atI_7, ixN_50, ixN_51, ixN_52, ixN_53, ixN_54, ixN_30, ixN_31, ixN_32, put_same, put_put, true_and, and_true, decide_true, decide_false, Bool.not_true, Bool.not_false, Bool.false_eq_true, if_true, if_false, decide_eq_true_eq, Bool.not_eq_true', decide_eq_false_iff_not, mem_one, ex_one, and_self]
    refine ⟨a, c, B, rs2, rfl, hH, f1, by omega, fun rs3 T3 hT3 w1 w2 => ?_⟩
    refine ⟨rs3, rfl, fun p hp => (w1 p hp).2.2, by omega, ?_⟩
    simp only [dSeq, dAsg, dRet, dRetN, dDrop, dRaise, dBreak, dCont, dPar, dAug, dFor, dNext, dSetF, dAugF, dRaiseF, dIfS, dTest, dOp, dVar, dC, dCB, dCons, dNil, dCall, dAndV, dOrV, dNotV, dAndT, dOrT, dNotT, dIf, dTup, dLst, dLstV, dSl, dSlV, rdSlV, oSome, oNone, dNeg, gN, gT, gConsD, gNilD, gSubD, gFldD, dChain, dLc, dBM, isLst, iSeqD, iR1, iR2, iR3, dYes, rdAddV, rdMulV, rdSub, rdDiv, rdMod, rdPow, rdIAdd, rdCmp, rdIsN, isn_non, isn_bl, isn_int, isn_str, isn_ref, isn_tup, isn_rol, isn_obj, rdEqG, rdIx_tup, rdIx_rol, rdIx_put, rdSet, rdLen_tup, rdLen_rol, rdLen_str, rdLen_put, rdInt1, rdInt, rdInt2, rdAppend, rdExt, rdPopAt, rdMaxL, rdMinL, rdListV, rdIsB, isBlV, rdStrI, rdIntS, dFrz, dFld, insOf_put, dMeth, lstOf_rol, lstOf_put, seqOf_tup, seqOf_rol, seqOf_put, frz_tup, frz_rol, frz_int, frz_bl, frz_non, frz_str, frz_obj, startN, wipeD, List.map_cons, List.map_nil, List.length_cons, List.length_nil, Nat.zero_add, Nat.sub_self, Nat.reduceAdd, Nat.reduceSub, List.replicate_succ, List.replicate_zero, List.cons_append, List.nil_append, List.append_nil, List.getElem?_cons_zero, List.getElem?_cons_succ, List.set_cons_zero, List.set_cons_succ, Option.some.injEq, exists_eq_left', DEnds.xd, atI_0, atI_1, atI_2, atI_3, atI_4, atI_5, atI_6, atI_7, ixN_50, ixN_51, ixN_52, ixN_53, ixN_54, ixN_30, ixN_31, ixN_32, put_same, put_put, true_and, and_true, decide_true, decide_false, Bool.not_true, Bool.not_false, Bool.false_eq_true, if_true, if_false, decide_eq_true_eq, Bool.not_eq_true', decide_eq_false_iff_not, mem_one, ex_one, and_self]
    have hl3 := runB_len rs3
    refine ⟨by simp only [List.length_map]; rw [sizeLine_eq]; omega, ?_⟩
    rw [← List.map_append]
    refine ⟨_, _, rfl, ⟨by simp; omega, ahB.app (runB_By w1 (by omega))⟩, by simp, ?_⟩
    simp only [dSeq, dAsg, dRet, dRetN, dDrop, dRaise, dBreak, dCont, dPar, dAug, dFor, dNext, dSetF, dAugF, dRaiseF, dIfS, dTest, dOp, dVar, dC, dCB, dCons, dNil, dCall, dAndV, dOrV, dNotV, dAndT, dOrT, dNotT, dIf, dTup, dLst, dLstV, dSl, dSlV, rdSlV, oSome, oNone, dNeg, gN, gT, gConsD, gNilD, gSubD, gFldD, dChain, dLc, dBM, isLst, iSeqD, iR1, iR2, iR3, dYes, rdAddV, rdMulV, rdSub, rdDiv, rdMod, rdPow, rdIAdd, rdCmp, rdIsN, isn_non, isn_bl, isn_int, isn_str, isn_ref, isn_tup, isn_rol, isn_obj, rdEqG, rdIx_tup, rdIx_rol, rdIx_put, rdSet, rdLen_tup, rdLen_rol, rdLen_str, rdLen_put, rdInt1, rdInt, rdInt2, rdAppend, rdExt, rdPopAt, rdMaxL, rdMinL, rdListV, rdIsB, isBlV, rdStrI, rdIntS, dFrz, dFld, insOf_put, dMeth, lstOf_rol, lstOf_put, seqOf_tup, seqOf_rol, seqOf_put, frz_tup, frz_rol, frz_int, frz_bl, frz_non, frz_str, frz_obj, startN, wipeD, List.map_cons, List.map_nil, List.length_cons, List.length_nil, Nat.zero_add, Nat.sub_self, Nat.reduceAdd, Nat.reduceSub, List.replicate_succ, List.replicate_zero, List.cons_append, List.nil_append, List.append_nil, List.getElem?_cons_zero, List.getElem?_cons_succ, List.set_cons_zero, List.set_cons_succ, Option.some.injEq, exists_eq_left', DEnds.xd, atI_0, atI_1, atI_2, atI_3, atI_4, atI_5, atI_6, atI_7, ixN_50, ixN_51, ixN_52, ixN_53, ixN_54, ixN_30, ixN_31, ixN_32, put_same, put_put, true_and, and_true, decide_true, decide_false, Bool.not_true, Bool.not_false, Bool.false_eq_true, if_true, if_false, decide_eq_true_eq, Bool.not_eq_true', decide_eq_false_iff_not, mem_one, ex_one, and_self]
    exact hN _ _ ⟨hT3, rfl⟩
  clear hH
  obtain ⟨hH, rfl⟩ := hM
  refine cut_seq (fun ρ T => IsH a c B T ∧ ∃ so : List Int, By so ∧ so.length ≤ 12 ∧ ρ = some (.rol (List.map Dv.int script)) :: some (.ref a) :: some (.int many) :: some (.rol (rs.map prD)) :: some (.tup (List.map Dv.int xs)) :: y5 :: some (.tup (List.map Dv.int due)) :: some (.tup (List.map Dv.int ah)) :: some (.tup (List.map Dv.int be)) :: y9 :: some (.rol (rs2.map prD)) :: some (.tup (List.map Dv.int so)) :: List.replicate 3 none) (fun N hN => ?_) (fun ρ T hM => ?_)
  · simp only [dSeq, dAsg, dRet, dRetN, dDrop, dRaise, dBreak, dCont, dPar, dAug, dFor, dNext, dSetF, dAugF, dRaiseF, dIfS, dTest, dOp, dVar, dC, dCB, dCons, dNil, dCall, dAndV, dOrV, dNotV, dAndT, dOrT, dNotT, dIf, dTup, dLst, dLstV, dSl, dSlV, rdSlV, oSome, oNone, dNeg, gN, gT, gConsD, gNilD, gSubD, gFldD, dChain, dLc, dBM, isLst, iSeqD, iR1, iR2, iR3, dYes, rdAddV, rdMulV, rdSub, rdDiv, rdMod, rdPow, rdIAdd, rdCmp, rdIsN, isn_non, isn_bl, isn_int, isn_str, isn_ref, isn_tup, isn_rol, isn_obj, rdEqG, rdIx_tup, rdIx_rol, rdIx_put, rdSet, rdLen_tup, rdLen_rol, rdLen_str, rdLen_put, rdInt1, rdInt, rdInt2, rdAppend, rdExt, rdPopAt, rdMaxL, rdMinL, rdListV, rdIsB, isBlV, rdStrI, rdIntS, dFrz, dFld, insOf_put, dMeth, lstOf_rol, lstOf_put, seqOf_tup, seqOf_rol, seqOf_put, frz_tup, frz_rol, frz_int, frz_bl, frz_non, frz_str, frz_obj, startN, wipeD, List.map_cons, List.map_nil, List.length_cons, List.length_nil, Nat.zero_add, Nat.sub_self, Nat.reduceAdd, Nat.reduceSub, List.replicate_succ, List.replicate_zero, List.cons_append, List.nil_append, List.append_nil, List.getElem?_cons_zero, List.getElem?_cons_succ, List.set_cons_zero, List.set_cons_succ, Option.some.injEq, exists_eq_left', DEnds.xd, atI_0, atI_1, atI_2, atI_3, atI_4, atI_5, atI_6, atI_7, ixN_50, ixN_51, ixN_52, ixN_53, ixN_54, ixN_30, ixN_31, ixN_32, put_same, put_put, true_and, and_true, decide_true, decide_false, Bool.not_true, Bool.not_false, Bool.false_eq_true, if_true, if_false, decide_eq_true_eq, Bool.not_eq_true', decide_eq_false_iff_not, mem_one, ex_one, and_self]
    exact ⟨a, c, B, 12, rfl, hH, by decide, by decide, fun ns T hT b1 b2 => hN _ _ ⟨hT, ns, b1, by omega, rfl⟩⟩
  clear hH
  obtain ⟨hH, so, soB, sol, rfl⟩ := hM
  refine cut_seq (fun ρ T => IsH a c B T ∧ ∃ y12 : Option Dv, ρ = some (.rol (List.map Dv.int script)) :: some (.ref a) :: some (.int many) :: some (.rol (rs.map prD)) :: some (.tup (List.map Dv.int xs)) :: y5 :: some (.tup (List.map Dv.int due)) :: some (.tup (List.map Dv.int ah)) :: some (.tup (List.map Dv.int be)) :: y9 :: some (.rol (rs2.map prD)) :: some (.tup (List.map Dv.int so)) :: y12 :: List.replicate 2 none) (fun N hN => ?_) (fun ρ T hM => ?_)
  · simp only [dSeq, dAsg, dRet, dRetN, dDrop, dRaise, dBreak, dCont, dPar, dAug, dFor, dNext, dSetF, dAugF, dRaiseF, dIfS, dTest, dOp, dVar, dC, dCB, dCons, dNil, dCall, dAndV, dOrV, dNotV, dAndT, dOrT, dNotT, dIf, dTup, dLst, dLstV, dSl, dSlV, rdSlV, oSome, oNone, dNeg, gN, gT, gConsD, gNilD, gSubD, gFldD, dChain, dLc, dBM, isLst, iSeqD, iR1, iR2, iR3, dYes, rdAddV, rdMulV, rdSub, rdDiv, rdMod, rdPow, rdIAdd, rdCmp, rdIsN, isn_non, isn_bl, isn_int, isn_str, isn_ref, isn_tup, isn_rol, isn_obj, rdEqG, rdIx_tup, rdIx_rol, rdIx_put, rdSet, rdLen_tup, rdLen_rol, rdLen_str, rdLen_put, rdInt1, rdInt, rdInt2, rdAppend, rdExt, rdPopAt, rdMaxL, rdMinL, rdListV, rdIsB, isBlV, rdStrI, rdIntS, dFrz, dFld, insOf_put, dMeth, lstOf_rol, lstOf_put, seqOf_tup, seqOf_rol, seqOf_put, frz_tup, frz_rol, frz_int, frz_bl, frz_non, frz_str, frz_obj, startN, wipeD, List.map_cons, List.map_nil, List.length_cons, List.length_nil, Nat.zero_add, Nat.sub_self, Nat.reduceAdd, Nat.reduceSub, List.replicate_succ, List.replicate_zero, List.cons_append, List.nil_append, List.append_nil, List.getElem?_cons_zero, List.getElem?_cons_succ, List.set_cons_zero, List.set_cons_succ, Option.some.injEq, exists_eq_left', DEnds.xd, atI_0, atI_1, atI_2, atI_3, atI_4, atI_5, atI_6, atI_7, ixN_50, ixN_51, ixN_52, ixN_53, ixN_54, ixN_30, ixN_31, ixN_32, put_same, put_put, true_and, and_true, decide_true, decide_false, Bool.not_true, Bool.not_false, Bool.false_eq_true, if_true, if_false, decide_eq_true_eq, Bool.not_eq_true', decide_eq_false_iff_not, mem_one, ex_one, and_self]
    refine for_go (fun j ρ T => IsH a c B T ∧ ∃ y12 : Option Dv, ρ = some (.rol (List.map Dv.int script)) :: some (.ref a) :: some (.int many) :: some (.rol (rs.map prD)) :: some (.tup (List.map Dv.int xs)) :: y5 :: some (.tup (List.map Dv.int due)) :: some (.tup (List.map Dv.int ah)) :: some (.tup (List.map Dv.int be)) :: y9 :: some (.rol (rs2.map prD)) :: some (.tup (List.map Dv.int so)) :: y12 :: List.replicate 2 none)
      ⟨hH, _, rfl⟩ (fun _ _ _ _ _ => trivial) (fun j z ρ T hz hw => ?_) fun ρ T hw => ?_
    · obtain ⟨hT, y12, rfl⟩ := hw
      obtain ⟨hj, rfl⟩ := rangeL_mem hz
      rw [List.length_map] at hj
      rw [Int.zero_add]
      simp only [dSeq, dAsg, dRet, dRetN, dDrop, dRaise, dBreak, dCont, dPar, dAug, dFor, dNext, dSetF, dAugF, dRaiseF, dIfS, dTest, dOp, dVar, dC, dCB, dCons, dNil, dCall, dAndV, dOrV, dNotV, dAndT, dOrT, dNotT, dIf, dTup, dLst, dLstV, dSl, dSlV, rdSlV, oSome, oNone, dNeg, gN, gT, gConsD, gNilD, gSubD, gFldD, dChain, dLc, dBM, isLst, iSeqD, iR1, iR2, iR3, dYes, rdAddV, rdMulV, rdSub, rdDiv, rdMod, rdPow, rdIAdd, rdCmp, rdIsN, isn_non, isn_bl, isn_int, isn_str, isn_ref, isn_tup, isn_rol, isn_obj, rdEqG, rdIx_tup, rdIx_rol, rdIx_put, rdSet, rdLen_tup, rdLen_rol, rdLen_str, rdLen_put, rdInt1, rdInt, rdInt2, rdAppend, rdExt, rdPopAt, rdMaxL, rdMinL, rdListV, rdIsB, isBlV, rdStrI, rdIntS, dFrz, dFld, insOf_put, dMeth, lstOf_rol, lstOf_put, seqOf_tup, seqOf_rol, seqOf_put, frz_tup, frz_rol, frz_int, frz_bl, frz_non, frz_str, frz_obj, startN, wipeD, List.map_cons, List.map_nil, List.length_cons, List.length_nil, Nat.zero_add, Nat.sub_self, Nat.reduceAdd, Nat.reduceSub, List.replicate_succ, List.replicate_zero, List.cons_append, List.nil_append, List.append_nil, List.getElem?_cons_zero, List.getElem?_cons_succ, List.set_cons_zero, List.set_cons_succ, Option.some.injEq, exists_eq_left', DEnds.xd, atI_0, atI_1, atI_2, atI_3, atI_4, atI_5, atI_6, atI_7, ixN_50, ixN_51, ixN_52, ixN_53, ixN_54, ixN_30, ixN_31, ixN_32, put_same, put_put, true_and, and_true, decide_true, decide_false, Bool.not_true, Bool.not_false, Bool.false_eq_true, if_true, if_false, decide_eq_true_eq, Bool.not_eq_true', decide_eq_false_iff_not, mem_one, ex_one, and_self]
      refine ⟨so, j, rfl, ⟨by omega, soB⟩, by omega, ?_⟩
      simp only [dSeq, dAsg, dRet, dRetN, dDrop, dRaise, dBreak, dCont, dPar, dAug, dFor, dNext, dSetF, dAugF, dRaiseF, dIfS, dTest, dOp, dVar, dC, dCB, dCons, dNil, dCall, dAndV, dOrV, dNotV, dAndT, dOrT, dNotT, dIf, dTup, dLst, dLstV, dSl, dSlV, rdSlV, oSome, oNone, dNeg, gN, gT, gConsD, gNilD, gSubD, gFldD, dChain, dLc, dBM, isLst, iSeqD, iR1, iR2, iR3, dYes, rdAddV, rdMulV, rdSub, rdDiv, rdMod, rdPow, rdIAdd, rdCmp, rdIsN, isn_non, isn_bl, isn_int, isn_str, isn_ref, isn_tup, isn_rol, isn_obj, rdEqG, rdIx_tup, rdIx_rol, rdIx_put, rdSet, rdLen_tup, rdLen_rol, rdLen_str, rdLen_put, rdInt1, rdInt, rdInt2, rdAppend, rdExt, rdPopAt, rdMaxL, rdMinL, rdListV, rdIsB, isBlV, rdStrI, rdIntS, dFrz, dFld, insOf_put, dMeth, lstOf_rol, lstOf_put, seqOf_tup, seqOf_rol, seqOf_put, frz_tup, frz_rol, frz_int, frz_bl, frz_non, frz_str, frz_obj, startN, wipeD, List.map_cons, List.map_nil, List.length_cons, List.length_nil, Nat.zero_add, Nat.sub_self, Nat.reduceAdd, Nat.reduceSub, List.replicate_succ, List.replicate_zero, List.cons_append, List.nil_append, List.append_nil, List.getElem?_cons_zero, List.getElem?_cons_succ, List.set_cons_zero, List.set_cons_succ, Option.some.injEq, exists_eq_left', DEnds.xd, atI_0, atI_1, atI_2, atI_3, atI_4, atI_5, atI_6, atI_7, ixN_50, ixN_51, ixN_52, ixN_53, ixN_54, ixN_30, ixN_31, ixN_32, put_same, put_put, true_and, and_true, decide_true, decide_false, Bool.not_true, Bool.not_false, Bool.false_eq_true, if_true, if_false, decide_eq_true_eq, Bool.not_eq_true', decide_eq_false_iff_not, mem_one, ex_one, and_self]
      exact ⟨hT, _, rfl⟩
    · obtain ⟨hT, y12, rfl⟩ := hw
      exact hN _ _ ⟨hT, _, rfl⟩
  clear hH
  obtain ⟨hH, y12, rfl⟩ := hM
  simp only [dSeq, dAsg, dRet, dRetN, dDrop, dRaise, dBreak, dCont, dPar, dAug, dFor, dNext, dSetF, dAugF, dRaiseF, dIfS, dTest, dOp, dVar, dC, dCB, dCons, dNil, dCall, dAndV, dOrV, dNotV, dAndT, dOrT, dNotT, dIf, dTup, dLst, dLstV, dSl, dSlV, rdSlV, oSome, oNone, dNeg, gN, gT, gConsD, gNilD, gSubD, gFldD, dChain, dLc, dBM, isLst, iSeqD, iR1, iR2, iR3, dYes, rdAddV, rdMulV, rdSub, rdDiv, rdMod, rdPow, rdIAdd, rdCmp, rdIsN, isn_non, isn_bl, isn_int, isn_str, isn_ref, isn_tup, isn_rol, isn_obj, rdEqG, rdIx_tup, rdIx_rol, rdIx_put, rdSet, rdLen_tup, rdLen_rol, rdLen_str, rdLen_put, rdInt1, rdInt, rdInt2, rdAppend, rdExt, rdPopAt, rdMaxL, rdMinL, rdListV, rdIsB, isBlV, rdStrI, rdIntS, dFrz, dFld, insOf_put, dMeth, lstOf_rol, lstOf_put, seqOf_tup, seqOf_rol, seqOf_put, frz_tup, frz_rol, frz_int, frz_bl, frz_non, frz_str, frz_obj, startN, wipeD, List.map_cons, List.map_nil, List.length_cons, List.length_nil, Nat.zero_add, Nat.sub_self, Nat.reduceAdd, Nat.reduceSub, List.replicate_succ, List.replicate_zero, List.cons_append, List.nil_append, List.append_nil, List.getElem?_cons_zero, List.getElem?_cons_succ, List.set_cons_zero, List.set_cons_succ, Option.some.injEq, exists_eq_left', DEnds.xd, atI_0, atI_1, atI_2, atI_3, atI_4, atI_5, atI_6, atI_7, ixN_50, ixN_51, ixN_52, ixN_53, ixN_54, ixN_30, ixN_31, ixN_32, put_same, put_put, true_and, and_true, decide_true, decide_false, Bool.not_true, Bool.not_false, Bool.false_eq_true, if_true, if_false, decide_eq_true_eq, Bool.not_eq_true', decide_eq_false_iff_not, mem_one, ex_one, and_self]
  refine ⟨a, c, B, rfl, hH, fun T hT => ?_⟩
  simp only [dSeq, dAsg, dRet, dRetN, dDrop, dRaise, dBreak, dCont, dPar, dAug, dFor, dNext, dSetF, dAugF, dRaiseF, dIfS, dTest, dOp, dVar, dC, dCB, dCons, dNil, dCall, dAndV, dOrV, dNotV, dAndT, dOrT, dNotT, dIf, dTup, dLst, dLstV, dSl, dSlV, rdSlV, oSome, oNone, dNeg, gN, gT, gConsD, gNilD, gSubD, gFldD, dChain, dLc, dBM, isLst, iSeqD, iR1, iR2, iR3, dYes, rdAddV, rdMulV, rdSub, rdDiv, rdMod, rdPow, rdIAdd, rdCmp, rdIsN, isn_non, isn_bl, isn_int, isn_str, isn_ref, isn_tup, isn_rol, isn_obj, rdEqG, rdIx_tup, rdIx_rol, rdIx_put, rdSet, rdLen_tup, rdLen_rol, rdLen_str, rdLen_put, rdInt1, rdInt, rdInt2, rdAppend, rdExt, rdPopAt, rdMaxL, rdMinL, rdListV, rdIsB, isBlV, rdStrI, rdIntS, dFrz, dFld, insOf_put, dMeth, lstOf_rol, lstOf_put, seqOf_tup, seqOf_rol, seqOf_put, frz_tup, frz_rol, frz_int, frz_bl, frz_non, frz_str, frz_obj, startN, wipeD, List.map_cons, List.map_nil, List.length_cons, List.length_nil, Nat.zero_add, Nat.sub_self, Nat.reduceAdd, Nat.reduceSub, List.replicate_succ, List.replicate_zero, List.cons_append, List.nil_append, List.append_nil, List.getElem?_cons_zero, List.getElem?_cons_succ, List.set_cons_zero, List.set_cons_succ, Option.some.injEq, exists_eq_left', DEnds.xd, atI_0, atI_1, atI_2, atI_3, atI_4, atI_5, atI_6, atI_7, ixN_50, ixN_51, ixN_52, ixN_53, ixN_54, ixN_30, ixN_31, ixN_32, put_same, put_put, true_and, and_true, decide_true, decide_false, Bool.not_true, Bool.not_false, Bool.false_eq_true, if_true, if_false, decide_eq_true_eq, Bool.not_eq_true', decide_eq_false_iff_not, mem_one, ex_one, and_self]
  refine go_input_row (by omega) hxB ?_
  rw [hD]
  unfold VD.valOf
  dsimp only
  rw [eqv_same (n := 2) clean_ints]
  exact ⟨⟨shp_clean (n := 2) clean_ints, shp_clean (n := 2) clean_ints⟩, h _⟩
end Lw

namespace Lw
open PySem PySem.Spec PyProof.Rows L2 VD
/-! terms, printed by gen.py from the law k26 -/
def topS (i : Nat) : Stmt := PySem.Challenge.pw_guessedworlds_k26_whole_inputs_as_rows.main.body.getD i (.Pass ⟨0, 0, 0, 0⟩)
abbrev s_is_integer : Stmt := topS 9
abbrev N_is_integer : List Str := [Str.ofString "thing"]
theorem sc_is_integer : FnScope N_is_integer [Str.ofString "thing"] (defScope s_is_integer) := ⟨rfl, rfl, rfl, by decide +kernel, rfl, by decide +kernel, by decide +kernel⟩
abbrev s_is_within : Stmt := topS 10
abbrev N_is_within : List Str := [Str.ofString "thing", Str.ofString "least", Str.ofString "most"]
theorem sc_is_within : FnScope N_is_within [Str.ofString "thing", Str.ofString "least", Str.ofString "most"] (defScope s_is_within) := ⟨rfl, rfl, rfl, by decide +kernel, rfl, by decide +kernel, by decide +kernel⟩
abbrev s_is_below : Stmt := topS 11
abbrev N_is_below : List Str := [Str.ofString "thing", Str.ofString "many"]
theorem sc_is_below : FnScope N_is_below [Str.ofString "thing", Str.ofString "many"] (defScope s_is_below) := ⟨rfl, rfl, rfl, by decide +kernel, rfl, by decide +kernel, by decide +kernel⟩
abbrev s_is_row : Stmt := topS 18
abbrev N_is_row : List Str := [Str.ofString "thing", Str.ofString "item"]
theorem sc_is_row : FnScope N_is_row [Str.ofString "thing"] (defScope s_is_row) := ⟨rfl, rfl, rfl, by decide +kernel, rfl, by decide +kernel, by decide +kernel⟩
abbrev s_check_row : Stmt := topS 19
abbrev N_check_row : List Str := [Str.ofString "thing"]
theorem sc_check_row : FnScope N_check_row [Str.ofString "thing"] (defScope s_check_row) := ⟨rfl, rfl, rfl, by decide +kernel, rfl, by decide +kernel, by decide +kernel⟩
abbrev s_figures_of : Stmt := topS 20
abbrev N_figures_of : List Str := [Str.ofString "number", Str.ofString "found", Str.ofString "left"]
theorem sc_figures_of : FnScope N_figures_of [Str.ofString "number"] (defScope s_figures_of) := ⟨rfl, rfl, rfl, by decide +kernel, rfl, by decide +kernel, by decide +kernel⟩
abbrev s_number_at : Stmt := topS 21
abbrev N_number_at : List Str := [Str.ofString "row", Str.ofString "at", Str.ofString "found", Str.ofString "worth", Str.ofString "place", Str.ofString "is_needless"]
theorem sc_number_at : FnScope N_number_at [Str.ofString "row", Str.ofString "at"] (defScope s_number_at) := ⟨rfl, rfl, rfl, by decide +kernel, rfl, by decide +kernel, by decide +kernel⟩
abbrev s_taken : Stmt := topS 22
abbrev N_taken : List Str := [Str.ofString "row", Str.ofString "at", Str.ofString "found"]
theorem sc_taken : FnScope N_taken [Str.ofString "row", Str.ofString "at"] (defScope s_taken) := ⟨rfl, rfl, rfl, by decide +kernel, rfl, by decide +kernel, by decide +kernel⟩
abbrev s_check_place : Stmt := topS 23
abbrev N_check_place : List Str := [Str.ofString "row", Str.ofString "at"]
theorem sc_check_place : FnScope N_check_place [Str.ofString "row", Str.ofString "at"] (defScope s_check_place) := ⟨rfl, rfl, rfl, by decide +kernel, rfl, by decide +kernel, by decide +kernel⟩
abbrev s_Reader_init : Stmt := inClass (topS 24) 0
abbrev N_Reader_init : List Str := [Str.ofString "self", Str.ofString "row", Str.ofString "at"]
theorem sc_Reader_init : FnScope N_Reader_init [Str.ofString "self", Str.ofString "row", Str.ofString "at"] (defScope s_Reader_init) := ⟨rfl, rfl, rfl, by decide +kernel, rfl, by decide +kernel, by decide +kernel⟩
abbrev s_Reader_next_number : Stmt := inClass (topS 24) 1
abbrev N_Reader_next_number : List Str := [Str.ofString "self", Str.ofString "found"]
theorem sc_Reader_next_number : FnScope N_Reader_next_number [Str.ofString "self"] (defScope s_Reader_next_number) := ⟨rfl, rfl, rfl, by decide +kernel, rfl, by decide +kernel, by decide +kernel⟩
abbrev s_Reader_next_byte : Stmt := inClass (topS 24) 4
abbrev N_Reader_next_byte : List Str := [Str.ofString "self"]
theorem sc_Reader_next_byte : FnScope N_Reader_next_byte [Str.ofString "self"] (defScope s_Reader_next_byte) := ⟨rfl, rfl, rfl, by decide +kernel, rfl, by decide +kernel, by decide +kernel⟩
abbrev s_is_input : Stmt := topS 27
abbrev N_is_input : List Str := [Str.ofString "thing"]
theorem sc_is_input : FnScope N_is_input [Str.ofString "thing"] (defScope s_is_input) := ⟨rfl, rfl, rfl, by decide +kernel, rfl, by decide +kernel, by decide +kernel⟩
abbrev s_are_inputs : Stmt := topS 28
abbrev N_are_inputs : List Str := [Str.ofString "thing", Str.ofString "item"]
theorem sc_are_inputs : FnScope N_are_inputs [Str.ofString "thing"] (defScope s_are_inputs) := ⟨rfl, rfl, rfl, by decide +kernel, rfl, by decide +kernel, by decide +kernel⟩
abbrev s_check_inputs : Stmt := topS 29
abbrev N_check_inputs : List Str := [Str.ofString "thing"]
theorem sc_check_inputs : FnScope N_check_inputs [Str.ofString "thing"] (defScope s_check_inputs) := ⟨rfl, rfl, rfl, by decide +kernel, rfl, by decide +kernel, by decide +kernel⟩
abbrev s_check_input : Stmt := topS 30
abbrev N_check_input : List Str := [Str.ofString "thing"]
theorem sc_check_input : FnScope N_check_input [Str.ofString "thing"] (defScope s_check_input) := ⟨rfl, rfl, rfl, by decide +kernel, rfl, by decide +kernel, by decide +kernel⟩
abbrev s_runs_of : Stmt := topS 31
abbrev N_runs_of : List Str := [Str.ofString "inputs", Str.ofString "found", Str.ofString "item"]
theorem sc_runs_of : FnScope N_runs_of [Str.ofString "inputs"] (defScope s_runs_of) := ⟨rfl, rfl, rfl, by decide +kernel, rfl, by decide +kernel, by decide +kernel⟩
abbrev s_run_row : Stmt := topS 32
abbrev N_run_row : List Str := [Str.ofString "inputs", Str.ofString "runs", Str.ofString "found", Str.ofString "item", Str.ofString "many"]
theorem sc_run_row : FnScope N_run_row [Str.ofString "inputs"] (defScope s_run_row) := ⟨rfl, rfl, rfl, by decide +kernel, rfl, by decide +kernel, by decide +kernel⟩
abbrev s_input_row : Stmt := topS 33
abbrev N_input_row : List Str := [Str.ofString "inputs"]
theorem sc_input_row : FnScope N_input_row [Str.ofString "inputs"] (defScope s_input_row) := ⟨rfl, rfl, rfl, by decide +kernel, rfl, by decide +kernel, by decide +kernel⟩
abbrev s_taken_inputs : Stmt := topS 34
abbrev N_taken_inputs : List Str := [Str.ofString "reader", Str.ofString "found", Str.ofString "turn", Str.ofString "item", Str.ofString "begin", Str.ofString "many"]
theorem sc_taken_inputs : FnScope N_taken_inputs [Str.ofString "reader"] (defScope s_taken_inputs) := ⟨rfl, rfl, rfl, by decide +kernel, rfl, by decide +kernel, by decide +kernel⟩
abbrev s_read_inputs : Stmt := topS 35
abbrev N_read_inputs : List Str := [Str.ofString "row", Str.ofString "at", Str.ofString "reader", Str.ofString "found"]
theorem sc_read_inputs : FnScope N_read_inputs [Str.ofString "row", Str.ofString "at"] (defScope s_read_inputs) := ⟨rfl, rfl, rfl, by decide +kernel, rfl, by decide +kernel, by decide +kernel⟩
abbrev s_guessed : Stmt := topS 39
abbrev N_guessed : List Str := [Str.ofString "last", Str.ofString "ago", Str.ofString "hold"]
theorem sc_guessed : FnScope N_guessed [Str.ofString "last", Str.ofString "ago", Str.ofString "hold"] (defScope s_guessed) := ⟨rfl, rfl, rfl, by decide +kernel, rfl, by decide +kernel, by decide +kernel⟩
abbrev s_guess : Stmt := topS 40
abbrev N_guess : List Str := [Str.ofString "last", Str.ofString "ago", Str.ofString "hold"]
theorem sc_guess : FnScope N_guess [Str.ofString "last", Str.ofString "ago", Str.ofString "hold"] (defScope s_guess) := ⟨rfl, rfl, rfl, by decide +kernel, rfl, by decide +kernel, by decide +kernel⟩
abbrev s__law_hand : Stmt := topS 42
abbrev N__law_hand : List Str := [Str.ofString "_law_script", Str.ofString "_law_cell"]
theorem sc__law_hand : FnScope N__law_hand [Str.ofString "_law_script"] (defScope s__law_hand) := ⟨rfl, rfl, rfl, by decide +kernel, rfl, by decide +kernel, by decide +kernel⟩
abbrev s__law_draw : Stmt := topS 43
abbrev N__law_draw : List Str := [Str.ofString "_law_hand_here", Str.ofString "_law_many", Str.ofString "_law_cell", Str.ofString "_law_digit", Str.ofString "_law_number"]
theorem sc__law_draw : FnScope N__law_draw [Str.ofString "_law_hand_here", Str.ofString "_law_many"] (defScope s__law_draw) := ⟨rfl, rfl, rfl, by decide +kernel, rfl, by decide +kernel, by decide +kernel⟩
abbrev s__law_is : Stmt := topS 44
abbrev N__law_is : List Str := [Str.ofString "_law_told", Str.ofString "_law_due", Str.ofString "_law_one", Str.ofString "_law_two"]
theorem sc__law_is : FnScope N__law_is [Str.ofString "_law_told", Str.ofString "_law_due"] (defScope s__law_is) := ⟨rfl, rfl, rfl, by decide +kernel, rfl, by decide +kernel, by decide +kernel⟩
abbrev s__law_whole : Stmt := topS 45
abbrev N__law_whole : List Str := [Str.ofString "_law_number", Str.ofString "_law_found", Str.ofString "_law_turn"]
theorem sc__law_whole : FnScope N__law_whole [Str.ofString "_law_number"] (defScope s__law_whole) := ⟨rfl, rfl, rfl, by decide +kernel, rfl, by decide +kernel, by decide +kernel⟩
abbrev s__law_read : Stmt := topS 46
abbrev N__law_read : List Str := [Str.ofString "_law_row", Str.ofString "_law_at", Str.ofString "_law_turn", Str.ofString "_law_number", Str.ofString "_law_place"]
theorem sc__law_read : FnScope N__law_read [Str.ofString "_law_row", Str.ofString "_law_at"] (defScope s__law_read) := ⟨rfl, rfl, rfl, by decide +kernel, rfl, by decide +kernel, by decide +kernel⟩
abbrev s__law_byte : Stmt := topS 47
abbrev N__law_byte : List Str := [Str.ofString "_law_hand_here"]
theorem sc__law_byte : FnScope N__law_byte [Str.ofString "_law_hand_here"] (defScope s__law_byte) := ⟨rfl, rfl, rfl, by decide +kernel, rfl, by decide +kernel, by decide +kernel⟩
abbrev s__law_bytes : Stmt := topS 48
abbrev N__law_bytes : List Str := [Str.ofString "_law_hand_here", Str.ofString "_law_most", Str.ofString "_law_turn"]
theorem sc__law_bytes : FnScope N__law_bytes [Str.ofString "_law_hand_here", Str.ofString "_law_most"] (defScope s__law_bytes) := ⟨rfl, rfl, rfl, by decide +kernel, rfl, by decide +kernel, by decide +kernel⟩
abbrev s__law_spoilt : Stmt := topS 49
abbrev N__law_spoilt : List Str := [Str.ofString "_law_hand_here", Str.ofString "_law_row", Str.ofString "_law_kind", Str.ofString "_law_at"]
theorem sc__law_spoilt : FnScope N__law_spoilt [Str.ofString "_law_hand_here", Str.ofString "_law_row"] (defScope s__law_spoilt) := ⟨rfl, rfl, rfl, by decide +kernel, rfl, by decide +kernel, by decide +kernel⟩
abbrev s__law_runs : Stmt := topS 50
abbrev N__law_runs : List Str := [Str.ofString "_law_hand_here", Str.ofString "_law_great", Str.ofString "_law_found", Str.ofString "_law_turn", Str.ofString "_law_many"]
theorem sc__law_runs : FnScope N__law_runs [Str.ofString "_law_hand_here"] (defScope s__law_runs) := ⟨rfl, rfl, rfl, by decide +kernel, rfl, by decide +kernel, by decide +kernel⟩
abbrev s__law_ticks : Stmt := topS 51
abbrev N__law_ticks : List Str := [Str.ofString "_law_runs_here", Str.ofString "_law_found", Str.ofString "_law_item", Str.ofString "_law_many"]
theorem sc__law_ticks : FnScope N__law_ticks [Str.ofString "_law_runs_here"] (defScope s__law_ticks) := ⟨rfl, rfl, rfl, by decide +kernel, rfl, by decide +kernel, by decide +kernel⟩
abbrev s__law_run_bytes : Stmt := topS 52
abbrev N__law_run_bytes : List Str := [Str.ofString "_law_runs_here", Str.ofString "_law_found", Str.ofString "_law_item", Str.ofString "_law_many"]
theorem sc__law_run_bytes : FnScope N__law_run_bytes [Str.ofString "_law_runs_here"] (defScope s__law_run_bytes) := ⟨rfl, rfl, rfl, by decide +kernel, rfl, by decide +kernel, by decide +kernel⟩
abbrev s__law_input_bytes : Stmt := topS 53
abbrev N__law_input_bytes : List Str := [Str.ofString "_law_inputs", Str.ofString "_law_runs_here", Str.ofString "_law_begin", Str.ofString "_law_at"]
theorem sc__law_input_bytes : FnScope N__law_input_bytes [Str.ofString "_law_inputs"] (defScope s__law_input_bytes) := ⟨rfl, rfl, rfl, by decide +kernel, rfl, by decide +kernel, by decide +kernel⟩
abbrev s__law_parsed : Stmt := topS 54
abbrev N__law_parsed : List Str := [Str.ofString "_law_row", Str.ofString "_law_at", Str.ofString "_law_head", Str.ofString "_law_here", Str.ofString "_law_found", Str.ofString "_law_turn", Str.ofString "_law_part"]
theorem sc__law_parsed : FnScope N__law_parsed [Str.ofString "_law_row", Str.ofString "_law_at"] (defScope s__law_parsed) := ⟨rfl, rfl, rfl, by decide +kernel, rfl, by decide +kernel, by decide +kernel⟩
abbrev s__law_read_told : Stmt := topS 55
abbrev N__law_read_told : List Str := [Str.ofString "_law_row", Str.ofString "_law_at", Str.ofString "error"]
theorem sc__law_read_told : FnScope N__law_read_told [Str.ofString "_law_row", Str.ofString "_law_at"] (defScope s__law_read_told) := ⟨rfl, rfl, rfl, by decide +kernel, rfl, by decide +kernel, by decide +kernel⟩
abbrev s__law_is_told : Stmt := topS 56
abbrev N__law_is_told : List Str := [Str.ofString "_law_row", Str.ofString "_law_at", Str.ofString "_law_inputs", Str.ofString "_law_behind", Str.ofString "_law_place", Str.ofString "_law_told"]
theorem sc__law_is_told : FnScope N__law_is_told [Str.ofString "_law_row", Str.ofString "_law_at"] (defScope s__law_is_told) := ⟨rfl, rfl, rfl, by decide +kernel, rfl, by decide +kernel, by decide +kernel⟩
abbrev s__law_wrong_runs : Stmt := topS 57
abbrev N__law_wrong_runs : List Str := [Str.ofString "_law_hand_here", Str.ofString "_law_runs_here", Str.ofString "_law_at", Str.ofString "_law_kind"]
theorem sc__law_wrong_runs : FnScope N__law_wrong_runs [Str.ofString "_law_hand_here", Str.ofString "_law_runs_here"] (defScope s__law_wrong_runs) := ⟨rfl, rfl, rfl, by decide +kernel, rfl, by decide +kernel, by decide +kernel⟩
abbrev s__law_is_guess : Stmt := topS 58
abbrev N__law_is_guess : List Str := [Str.ofString "_law_hand_here", Str.ofString "_law_last", Str.ofString "_law_hold", Str.ofString "_law_ago", Str.ofString "_law_due"]
theorem sc__law_is_guess : FnScope N__law_is_guess [Str.ofString "_law_hand_here"] (defScope s__law_is_guess) := ⟨rfl, rfl, rfl, by decide +kernel, rfl, by decide +kernel, by decide +kernel⟩
abbrev s_law : Stmt := topS 59
abbrev N_law : List Str := [Str.ofString "_law_script", Str.ofString "_law_hand_here", Str.ofString "_law_many", Str.ofString "_law_runs_here", Str.ofString "_law_inputs", Str.ofString "_law_row", Str.ofString "_law_due", Str.ofString "_law_ahead", Str.ofString "_law_behind", Str.ofString "_law_turn", Str.ofString "_law_few", Str.ofString "_law_some", Str.ofString "_law_at", Str.ofString "_law_item", Str.ofString "_law_ticks_here"]
theorem sc_law : FnScope N_law [Str.ofString "_law_script"] (defScope s_law) := ⟨rfl, rfl, rfl, by decide +kernel, rfl, by decide +kernel, by decide +kernel⟩
abbrev s_BadRow_init : Stmt := inClass (topS 7) 0
abbrev N_BadRow_init : List Str := [Str.ofString "self", Str.ofString "place"]
theorem sc_BadRow_init : FnScope [Str.ofString "self", Str.ofString "place"] [Str.ofString "self", Str.ofString "place"] (defScope s_BadRow_init) := ⟨rfl, rfl, rfl, by decide +kernel, rfl, by decide +kernel, by decide +kernel⟩
structure Tx (K : PySem.W.Frag) (mg : Str → Option Value) (A : Ad) where
  ot : OTab.Ok K A.ot
  c_Reader : Cls K A.Reader
  na_Reader_at : NoAttr K A.Reader (Str.ofString "at")
  na_Reader_last : NoAttr K A.Reader (Str.ofString "last")
  na_Reader_row : NoAttr K A.Reader (Str.ofString "row")
  a_is_integer : Addr
  fd_is_integer : FuncData
  F_is_integer : Fun K "is_integer" "is_integer" s_is_integer a_is_integer fd_is_integer
  m_is_integer : mg "is_integer" = some (.ref a_is_integer)
  b_is_integer : Binds K fd_is_integer [Str.ofString "thing"] []
  a_is_within : Addr
  fd_is_within : FuncData
  F_is_within : Fun K "is_within" "is_within" s_is_within a_is_within fd_is_within
  m_is_within : mg "is_within" = some (.ref a_is_within)
  b_is_within : Binds K fd_is_within [Str.ofString "thing", Str.ofString "least", Str.ofString "most"] []
  a_is_below : Addr
  fd_is_below : FuncData
  F_is_below : Fun K "is_below" "is_below" s_is_below a_is_below fd_is_below
  m_is_below : mg "is_below" = some (.ref a_is_below)
  b_is_below : Binds K fd_is_below [Str.ofString "thing", Str.ofString "many"] []
  a_is_row : Addr
  fd_is_row : FuncData
  F_is_row : Fun K "is_row" "is_row" s_is_row a_is_row fd_is_row
  m_is_row : mg "is_row" = some (.ref a_is_row)
  b_is_row : Binds K fd_is_row [Str.ofString "thing"] []
  a_check_row : Addr
  fd_check_row : FuncData
  F_check_row : Fun K "check_row" "check_row" s_check_row a_check_row fd_check_row
  m_check_row : mg "check_row" = some (.ref a_check_row)
  b_check_row : Binds K fd_check_row [Str.ofString "thing"] []
  a_figures_of : Addr
  fd_figures_of : FuncData
  F_figures_of : Fun K "figures_of" "figures_of" s_figures_of a_figures_of fd_figures_of
  m_figures_of : mg "figures_of" = some (.ref a_figures_of)
  b_figures_of : Binds K fd_figures_of [Str.ofString "number"] []
  a_number_at : Addr
  fd_number_at : FuncData
  F_number_at : Fun K "number_at" "number_at" s_number_at a_number_at fd_number_at
  m_number_at : mg "number_at" = some (.ref a_number_at)
  b_number_at : Binds K fd_number_at [Str.ofString "row", Str.ofString "at"] []
  a_taken : Addr
  fd_taken : FuncData
  F_taken : Fun K "taken" "taken" s_taken a_taken fd_taken
  m_taken : mg "taken" = some (.ref a_taken)
  b_taken : Binds K fd_taken [Str.ofString "row", Str.ofString "at"] []
  a_check_place : Addr
  fd_check_place : FuncData
  F_check_place : Fun K "check_place" "check_place" s_check_place a_check_place fd_check_place
  m_check_place : mg "check_place" = some (.ref a_check_place)
  b_check_place : Binds K fd_check_place [Str.ofString "row", Str.ofString "at"] []
  a_Reader_init : Addr
  fd_Reader_init : FuncData
  F_Reader_init : Fun K "__init__" "Reader.__init__" s_Reader_init a_Reader_init fd_Reader_init
  b_Reader_init : Binds K fd_Reader_init [Str.ofString "self", Str.ofString "row", Str.ofString "at"] []
  a_Reader_next_number : Addr
  fd_Reader_next_number : FuncData
  F_Reader_next_number : Fun K "next_number" "Reader.next_number" s_Reader_next_number a_Reader_next_number fd_Reader_next_number
  b_Reader_next_number : Binds K fd_Reader_next_number [Str.ofString "self"] []
  a_Reader_next_byte : Addr
  fd_Reader_next_byte : FuncData
  F_Reader_next_byte : Fun K "next_byte" "Reader.next_byte" s_Reader_next_byte a_Reader_next_byte fd_Reader_next_byte
  b_Reader_next_byte : Binds K fd_Reader_next_byte [Str.ofString "self"] []
  a_is_input : Addr
  fd_is_input : FuncData
  F_is_input : Fun K "is_input" "is_input" s_is_input a_is_input fd_is_input
  m_is_input : mg "is_input" = some (.ref a_is_input)
  b_is_input : Binds K fd_is_input [Str.ofString "thing"] []
  a_are_inputs : Addr
  fd_are_inputs : FuncData
  F_are_inputs : Fun K "are_inputs" "are_inputs" s_are_inputs a_are_inputs fd_are_inputs
  m_are_inputs : mg "are_inputs" = some (.ref a_are_inputs)
  b_are_inputs : Binds K fd_are_inputs [Str.ofString "thing"] []
  a_check_inputs : Addr
  fd_check_inputs : FuncData
  F_check_inputs : Fun K "check_inputs" "check_inputs" s_check_inputs a_check_inputs fd_check_inputs
  m_check_inputs : mg "check_inputs" = some (.ref a_check_inputs)
  b_check_inputs : Binds K fd_check_inputs [Str.ofString "thing"] []
  a_check_input : Addr
  fd_check_input : FuncData
  F_check_input : Fun K "check_input" "check_input" s_check_input a_check_input fd_check_input
  m_check_input : mg "check_input" = some (.ref a_check_input)
  b_check_input : Binds K fd_check_input [Str.ofString "thing"] []
  a_runs_of : Addr
  fd_runs_of : FuncData
  F_runs_of : Fun K "runs_of" "runs_of" s_runs_of a_runs_of fd_runs_of
  m_runs_of : mg "runs_of" = some (.ref a_runs_of)
  b_runs_of : Binds K fd_runs_of [Str.ofString "inputs"] []
  a_run_row : Addr
  fd_run_row : FuncData
  F_run_row : Fun K "run_row" "run_row" s_run_row a_run_row fd_run_row
  m_run_row : mg "run_row" = some (.ref a_run_row)
  b_run_row : Binds K fd_run_row [Str.ofString "inputs"] []
  a_input_row : Addr
  fd_input_row : FuncData
  F_input_row : Fun K "input_row" "input_row" s_input_row a_input_row fd_input_row
  m_input_row : mg "input_row" = some (.ref a_input_row)
  b_input_row : Binds K fd_input_row [Str.ofString "inputs"] []
  a_taken_inputs : Addr
  fd_taken_inputs : FuncData
  F_taken_inputs : Fun K "taken_inputs" "taken_inputs" s_taken_inputs a_taken_inputs fd_taken_inputs
  m_taken_inputs : mg "taken_inputs" = some (.ref a_taken_inputs)
  b_taken_inputs : Binds K fd_taken_inputs [Str.ofString "reader"] []
  a_read_inputs : Addr
  fd_read_inputs : FuncData
  F_read_inputs : Fun K "read_inputs" "read_inputs" s_read_inputs a_read_inputs fd_read_inputs
  m_read_inputs : mg "read_inputs" = some (.ref a_read_inputs)
  b_read_inputs : Binds K fd_read_inputs [Str.ofString "row", Str.ofString "at"] []
  a_guessed : Addr
  fd_guessed : FuncData
  F_guessed : Fun K "guessed" "guessed" s_guessed a_guessed fd_guessed
  m_guessed : mg "guessed" = some (.ref a_guessed)
  b_guessed : Binds K fd_guessed [Str.ofString "last", Str.ofString "ago", Str.ofString "hold"] []
  a_guess : Addr
  fd_guess : FuncData
  F_guess : Fun K "guess" "guess" s_guess a_guess fd_guess
  m_guess : mg "guess" = some (.ref a_guess)
  b_guess : Binds K fd_guess [Str.ofString "last", Str.ofString "ago", Str.ofString "hold"] []
  a__law_hand : Addr
  fd__law_hand : FuncData
  F__law_hand : Fun K "_law_hand" "_law_hand" s__law_hand a__law_hand fd__law_hand
  m__law_hand : mg "_law_hand" = some (.ref a__law_hand)
  b__law_hand : Binds K fd__law_hand [Str.ofString "_law_script"] []
  a__law_draw : Addr
  fd__law_draw : FuncData
  F__law_draw : Fun K "_law_draw" "_law_draw" s__law_draw a__law_draw fd__law_draw
  m__law_draw : mg "_law_draw" = some (.ref a__law_draw)
  b__law_draw : Binds K fd__law_draw [Str.ofString "_law_hand_here", Str.ofString "_law_many"] []
  a__law_is : Addr
  fd__law_is : FuncData
  F__law_is : Fun K "_law_is" "_law_is" s__law_is a__law_is fd__law_is
  m__law_is : mg "_law_is" = some (.ref a__law_is)
  b__law_is : Binds K fd__law_is [Str.ofString "_law_told", Str.ofString "_law_due"] []
  a__law_whole : Addr
  fd__law_whole : FuncData
  F__law_whole : Fun K "_law_whole" "_law_whole" s__law_whole a__law_whole fd__law_whole
  m__law_whole : mg "_law_whole" = some (.ref a__law_whole)
  b__law_whole : Binds K fd__law_whole [Str.ofString "_law_number"] []
  a__law_read : Addr
  fd__law_read : FuncData
  F__law_read : Fun K "_law_read" "_law_read" s__law_read a__law_read fd__law_read
  m__law_read : mg "_law_read" = some (.ref a__law_read)
  b__law_read : Binds K fd__law_read [Str.ofString "_law_row", Str.ofString "_law_at"] []
  a__law_byte : Addr
  fd__law_byte : FuncData
  F__law_byte : Fun K "_law_byte" "_law_byte" s__law_byte a__law_byte fd__law_byte
  m__law_byte : mg "_law_byte" = some (.ref a__law_byte)
  b__law_byte : Binds K fd__law_byte [Str.ofString "_law_hand_here"] []
  a__law_bytes : Addr
  fd__law_bytes : FuncData
  F__law_bytes : Fun K "_law_bytes" "_law_bytes" s__law_bytes a__law_bytes fd__law_bytes
  m__law_bytes : mg "_law_bytes" = some (.ref a__law_bytes)
  b__law_bytes : Binds K fd__law_bytes [Str.ofString "_law_hand_here", Str.ofString "_law_most"] []
  a__law_spoilt : Addr
  fd__law_spoilt : FuncData
  F__law_spoilt : Fun K "_law_spoilt" "_law_spoilt" s__law_spoilt a__law_spoilt fd__law_spoilt
  m__law_spoilt : mg "_law_spoilt" = some (.ref a__law_spoilt)
  b__law_spoilt : Binds K fd__law_spoilt [Str.ofString "_law_hand_here", Str.ofString "_law_row"] []
  a__law_runs : Addr
  fd__law_runs : FuncData
  F__law_runs : Fun K "_law_runs" "_law_runs" s__law_runs a__law_runs fd__law_runs
  m__law_runs : mg "_law_runs" = some (.ref a__law_runs)
  b__law_runs : Binds K fd__law_runs [Str.ofString "_law_hand_here"] []
  a__law_ticks : Addr
  fd__law_ticks : FuncData
  F__law_ticks : Fun K "_law_ticks" "_law_ticks" s__law_ticks a__law_ticks fd__law_ticks
  m__law_ticks : mg "_law_ticks" = some (.ref a__law_ticks)
  b__law_ticks : Binds K fd__law_ticks [Str.ofString "_law_runs_here"] []
  a__law_run_bytes : Addr
  fd__law_run_bytes : FuncData
  F__law_run_bytes : Fun K "_law_run_bytes" "_law_run_bytes" s__law_run_bytes a__law_run_bytes fd__law_run_bytes
  m__law_run_bytes : mg "_law_run_bytes" = some (.ref a__law_run_bytes)
  b__law_run_bytes : Binds K fd__law_run_bytes [Str.ofString "_law_runs_here"] []
  a__law_input_bytes : Addr
  fd__law_input_bytes : FuncData
  F__law_input_bytes : Fun K "_law_input_bytes" "_law_input_bytes" s__law_input_bytes a__law_input_bytes fd__law_input_bytes
  m__law_input_bytes : mg "_law_input_bytes" = some (.ref a__law_input_bytes)
  b__law_input_bytes : Binds K fd__law_input_bytes [Str.ofString "_law_inputs"] []
  a__law_parsed : Addr
  fd__law_parsed : FuncData
  F__law_parsed : Fun K "_law_parsed" "_law_parsed" s__law_parsed a__law_parsed fd__law_parsed
  m__law_parsed : mg "_law_parsed" = some (.ref a__law_parsed)
  b__law_parsed : Binds K fd__law_parsed [Str.ofString "_law_row", Str.ofString "_law_at"] []
  a__law_read_told : Addr
  fd__law_read_told : FuncData
  F__law_read_told : Fun K "_law_read_told" "_law_read_told" s__law_read_told a__law_read_told fd__law_read_told
  m__law_read_told : mg "_law_read_told" = some (.ref a__law_read_told)
  b__law_read_told : Binds K fd__law_read_told [Str.ofString "_law_row", Str.ofString "_law_at"] []
  a__law_is_told : Addr
  fd__law_is_told : FuncData
  F__law_is_told : Fun K "_law_is_told" "_law_is_told" s__law_is_told a__law_is_told fd__law_is_told
  m__law_is_told : mg "_law_is_told" = some (.ref a__law_is_told)
  b__law_is_told : Binds K fd__law_is_told [Str.ofString "_law_row", Str.ofString "_law_at"] []
  a__law_wrong_runs : Addr
  fd__law_wrong_runs : FuncData
  F__law_wrong_runs : Fun K "_law_wrong_runs" "_law_wrong_runs" s__law_wrong_runs a__law_wrong_runs fd__law_wrong_runs
  m__law_wrong_runs : mg "_law_wrong_runs" = some (.ref a__law_wrong_runs)
  b__law_wrong_runs : Binds K fd__law_wrong_runs [Str.ofString "_law_hand_here", Str.ofString "_law_runs_here"] []
  a__law_is_guess : Addr
  fd__law_is_guess : FuncData
  F__law_is_guess : Fun K "_law_is_guess" "_law_is_guess" s__law_is_guess a__law_is_guess fd__law_is_guess
  m__law_is_guess : mg "_law_is_guess" = some (.ref a__law_is_guess)
  b__law_is_guess : Binds K fd__law_is_guess [Str.ofString "_law_hand_here"] []
  a_law : Addr
  fd_law : FuncData
  F_law : Fun K "law" "law" s_law a_law fd_law
  m_law : mg "law" = some (.ref a_law)
  b_law : Binds K fd_law [Str.ofString "_law_script"] []
  me_Reader_next_byte : Meth K A.Reader (Str.ofString "next_byte") a_Reader_next_byte
  me_Reader_next_number : Meth K A.Reader (Str.ofString "next_number") a_Reader_next_number
  mk_Reader : Mk K A.Reader a_Reader_init
  u_BYTE : Value
  m_BYTE : mg "BYTE" = some u_BYTE
  v_BYTE : VRep K u_BYTE (.int 256)
  u_FIGURE : Value
  m_FIGURE : mg "FIGURE" = some u_FIGURE
  v_FIGURE : VRep K u_FIGURE (.int 128)
  u_MOST_AGO : Value
  m_MOST_AGO : mg "MOST_AGO" = some u_MOST_AGO
  v_MOST_AGO : VRep K u_MOST_AGO (.int 100000)
  u_MOST_BYTES : Value
  m_MOST_BYTES : mg "MOST_BYTES" = some u_MOST_BYTES
  v_MOST_BYTES : VRep K u_MOST_BYTES (.int 300000)
  u_MOST_FIGURES : Value
  m_MOST_FIGURES : mg "MOST_FIGURES" = some u_MOST_FIGURES
  v_MOST_FIGURES : VRep K u_MOST_FIGURES (.int 10)
  u_MOST_HOLD : Value
  m_MOST_HOLD : mg "MOST_HOLD" = some u_MOST_HOLD
  v_MOST_HOLD : VRep K u_MOST_HOLD (.int 600)
  u_MOST_INPUTS : Value
  m_MOST_INPUTS : mg "MOST_INPUTS" = some u_MOST_INPUTS
  v_MOST_INPUTS : VRep K u_MOST_INPUTS (.int 100000)
  u_WHOLE_BOUND : Value
  m_WHOLE_BOUND : mg "WHOLE_BOUND" = some u_WHOLE_BOUND
  v_WHOLE_BOUND : VRep K u_WHOLE_BOUND (.int 18446744073709551616)
  n_all : mg "all" = none
  n_bool : mg "bool" = none
  n_int : mg "int" = none
  n_isinstance : mg "isinstance" = none
  n_len : mg "len" = none
  n_list : mg "list" = none
  n_max : mg "max" = none
  n_min : mg "min" = none
  n_range : mg "range" = none
  n_tuple : mg "tuple" = none
  n_zip : mg "zip" = none
  m_WorldError : mg "WorldError" = some (.ref A.WorldError)
  x_WorldError : Exc0 K A.WorldError
  m_NoNumber : mg "NoNumber" = some (.ref A.NoNumber)
  x_NoNumber : Exc0 K A.NoNumber
  m_NoInputs : mg "NoInputs" = some (.ref A.NoInputs)
  x_NoInputs : Exc0 K A.NoInputs
  m_NoRow : mg "NoRow" = some (.ref A.NoRow)
  x_NoRow : Exc0 K A.NoRow
  m_NoPlace : mg "NoPlace" = some (.ref A.NoPlace)
  x_NoPlace : Exc0 K A.NoPlace
  m_BadRow : mg "BadRow" = some (.ref A.BadRow)
  o_BadRow : OexC K A.BadRow
  z_BadRow : XfC K A.BadRow
  nf_BadRow : PySem.W.findIn K (.ref A.BadRow) (Str.ofString "place") = some none
  ai_BadRow : Addr
  fdi_BadRow : FuncData
  i_BadRow : PySem.W.findIn K (.ref A.BadRow) "__init__" = some (some (.ref ai_BadRow))
  t_BadRow : PySem.W.typeIn K (.ref ai_BadRow) = some (.type "function")
  Fi_BadRow : Fun K "__init__" "BadRow.__init__" s_BadRow_init ai_BadRow fdi_BadRow
  bi_BadRow : Binds K fdi_BadRow [Str.ofString "self", Str.ofString "place"] []
  m_Reader : mg "Reader" = some (.ref A.Reader)
  e_BadRow_BadRow : PySem.W.exmOne K (.ref A.BadRow) (.ref A.BadRow) = some true
  e_NoPlace_BadRow : PySem.W.exmOne K (.ref A.NoPlace) (.ref A.BadRow) = some false
  e_NoRow_BadRow : PySem.W.exmOne K (.ref A.NoRow) (.ref A.BadRow) = some false
section
variable {P : Program} {w : World} {K : PySem.W.Frag} {mg : Str → Option Value} {base : Heap} {A : Ad}
theorem gi_BadRow (T : Tx K mg A) : FnOk P w K mg base (L2.CX P w) 1 T.ai_BadRow T.fdi_BadRow [Str.ofString "self", Str.ofString "place"] (spInit A.BadRow (Str.ofString "place")) := okInit T.Fi_BadRow sc_BadRow_init T.o_BadRow T.nf_BadRow (fun cdv An outer s H E hr => pss_one (ps_ost (pv 0) (pv 1)))
theorem w_is_integer (T : Tx K mg A) (cdv : Value) (An : Around) (outer : List Env) (s : Shared) (H : Hp) (E : XK) (hr : RoomG 0 (An.deeper (envOfC "is_integer" (defScope s_is_integer) s.heap.objs.size T.a_is_integer cdv))) :
    PSs (cxOf (L2.CX P w) P w K mg base N_is_integer "is_integer" (defScope s_is_integer) T.a_is_integer cdv An outer s H E) (defBody s_is_integer) (lowS K (WF E) (r_is_integer A)) :=
  (s_one (s_ret (d_and (d_callB call_isiA (l_isi T.ot) T.n_isinstance bt_isinstance (da_cons (dv 0) (da_cons (d_ty T.n_int bt_int) da_nil))) (d_one (d_not (d_callB call_isiA (l_isi T.ot) T.n_isinstance bt_isinstance (da_cons (dv 0) (da_cons (d_ty T.n_bool bt_bool) da_nil))))))))
theorem w_is_within (T : Tx K mg A) (G_is_integer : FnD P w K mg base 1 T.a_is_integer T.fd_is_integer [Str.ofString "thing"] (sp_is_integer A)) (cdv : Value) (An : Around) (outer : List Env) (s : Shared) (H : Hp) (E : XK) (hr : RoomG 1 (An.deeper (envOfC "is_within" (defScope s_is_within) s.heap.objs.size T.a_is_within cdv))) :
    PSs (cxOf (L2.CX P w) P w K mg base N_is_within "is_within" (defScope s_is_within) T.a_is_within cdv An outer s H E) (defBody s_is_within) (lowS K (WF E) (r_is_within A)) :=
  (s_one (s_ret (d_and (d_call G_is_integer (hr.mono (by decide)) T.m_is_integer T.F_is_integer.kp T.b_is_integer tkF (da_cons (dv 0) da_nil)) (d_one (d_chain op_le l_cmp op_le l_cmp (dv 1) (dv 0) (dv 2))))))
theorem w_is_below (T : Tx K mg A) (G_is_within : FnD P w K mg base 2 T.a_is_within T.fd_is_within [Str.ofString "thing", Str.ofString "least", Str.ofString "most"] (sp_is_within A)) (cdv : Value) (An : Around) (outer : List Env) (s : Shared) (H : Hp) (E : XK) (hr : RoomG 2 (An.deeper (envOfC "is_below" (defScope s_is_below) s.heap.objs.size T.a_is_below cdv))) :
    PSs (cxOf (L2.CX P w) P w K mg base N_is_below "is_below" (defScope s_is_below) T.a_is_below cdv An outer s H E) (defBody s_is_below) (lowS K (WF E) (r_is_below A)) :=
  (s_one (s_ret (d_call G_is_within (hr.mono (by decide)) T.m_is_within T.F_is_within.kp T.b_is_within tkF (da_cons (dv 0) (da_cons d_int (da_cons (d_op op_sub l_sub (dv 1) d_int) da_nil))))))
theorem w_is_row (T : Tx K mg A) (G_is_below : FnD P w K mg base 3 T.a_is_below T.fd_is_below [Str.ofString "thing", Str.ofString "many"] (sp_is_below A)) (cdv : Value) (An : Around) (outer : List Env) (s : Shared) (H : Hp) (E : XK) (hr : RoomG 3 (An.deeper (envOfC "is_row" (defScope s_is_row) s.heap.objs.size T.a_is_row cdv))) :
    PSs (cxOf (L2.CX P w) P w K mg base N_is_row "is_row" (defScope s_is_row) T.a_is_row cdv An outer s H E) (defBody s_is_row) (lowS K (WF E) (r_is_row A)) :=
  (s_one (s_ret (d_and (d_callB call_isiA (l_isi T.ot) T.n_isinstance bt_isinstance (da_cons (dv 0) (da_cons (d_ty T.n_tuple bt_tuple) da_nil))) (d_and (d_cmp op_le l_cmp (d_callB call_len l_len T.n_len bt_len (da_cons (dv 0) da_nil)) (d_glob T.m_MOST_BYTES T.v_MOST_BYTES)) (d_one (d_callB (cr_all rfl) l_all T.n_all bt_all (da_cons (d_frz (d_lc (own := [(Str.ofString "item", 1)]) rfl sc_is_row.nd (i_seq (dv 0)) (blkOk_by (N := N_is_row) (sc := defScope s_is_row) (by decide +kernel)) (fun _ _ _ _ _ => (pg_name (i := 1) sc_is_row.nd rfl (Or.inl rfl))) (ng_name (by decide)) (fun _ _ _ _ _ => c_nil) (fun _ _ _ _ _ => (d_call G_is_below (hr.mono (by decide)) T.m_is_below T.F_is_below.kp T.b_is_below takes0 (da_cons (dv 1) (da_cons (d_glob T.m_BYTE T.v_BYTE) da_nil)))))) da_nil)))))))
theorem w_check_row (T : Tx K mg A) (G_is_row : FnD P w K mg base 4 T.a_is_row T.fd_is_row [Str.ofString "thing"] (sp_is_row A)) (cdv : Value) (An : Around) (outer : List Env) (s : Shared) (H : Hp) (E : XK) (hr : RoomG 4 (An.deeper (envOfC "check_row" (defScope s_check_row) s.heap.objs.size T.a_check_row cdv))) :
    PSs (cxOf (L2.CX P w) P w K mg base N_check_row "check_row" (defScope s_check_row) T.a_check_row cdv An outer s H E) (defBody s_check_row) (lowS K (WF E) (r_check_row A)) :=
  (s_one (s_if (t_not (t_val (d_call G_is_row (hr.mono (by decide)) T.m_is_row T.F_is_row.kp T.b_is_row tkF (da_cons (dv 0) da_nil)))) (s_one (s_raise0 rfl tkF T.x_NoRow T.m_NoRow)) s_nil))
theorem w_figures_of (T : Tx K mg A) (cdv : Value) (An : Around) (outer : List Env) (s : Shared) (H : Hp) (E : XK) (hr : RoomG 0 (An.deeper (envOfC "figures_of" (defScope s_figures_of) s.heap.objs.size T.a_figures_of cdv))) :
    PSs (cxOf (L2.CX P w) P w K mg base N_figures_of "figures_of" (defScope s_figures_of) T.a_figures_of cdv An outer s H E) (defBody s_figures_of) (lowS K (WF E) (r_figures_of A)) :=
  (s_cons (s_set 1 sc_figures_of.nd (d_lst da_nil))
    (s_cons (s_set 2 sc_figures_of.nd (dv 0))
    (s_cons (s_while (passes_of rfl) (t_cmp op_ge l_cmp (dv 2) (d_glob T.m_FIGURE T.v_FIGURE)) (s_cons (s_expr (d_bm PySem.F.slot_list_append PySem.F.type_list_append mt_append l_append (dv 1) (da_cons (d_opV op_addA l_addV (d_op op_mod l_mod (dv 2) (d_glob T.m_FIGURE T.v_FIGURE)) (d_glob T.m_FIGURE T.v_FIGURE)) da_nil)))
    (s_one (s_set 2 sc_figures_of.nd (d_op op_divP l_div (dv 2) (d_glob T.m_FIGURE T.v_FIGURE))))))
    (s_one (s_ret (d_opV op_addA l_addV (d_callTy call_tuple_of l_tuple T.n_tuple bt_tuple (da_cons (dv 1) da_nil)) (d_tup (da_cons (dv 2) da_nil))))))))
theorem w_number_at (T : Tx K mg A) (cdv : Value) (An : Around) (outer : List Env) (s : Shared) (H : Hp) (E : XK) (hr : RoomG 0 (An.deeper (envOfC "number_at" (defScope s_number_at) s.heap.objs.size T.a_number_at cdv))) :
    PSs (cxOf (L2.CX P w) P w K mg base N_number_at "number_at" (defScope s_number_at) T.a_number_at cdv An outer s H E) (defBody s_number_at) (lowS K (WF E) (r_number_at A)) :=
  (s_cons (s_set 2 sc_number_at.nd d_int)
    (s_cons (s_set 3 sc_number_at.nd d_int)
    (s_cons (s_for (passes_of rfl) rfl (i_r2 T.n_range (da_cons (dv 1) (da_cons (d_callB (call_minA rfl) l_minL T.n_min bt_min (da_cons (d_callB call_len l_len T.n_len bt_len (da_cons (dv 0) da_nil)) (da_cons (d_opV op_addA l_addV (dv 1) (d_glob T.m_MOST_FIGURES T.v_MOST_FIGURES)) da_nil))) da_nil))) (g_name 4 sc_number_at.nd) (s_cons (s_aug 2 sc_number_at.nd iop_add l_iadd (d_opV op_mulB l_mulV (d_op op_mod l_mod (d_ix (dv 0) (dv 4)) (d_glob T.m_FIGURE T.v_FIGURE)) (dv 3)))
    (s_cons (s_set 3 sc_number_at.nd (d_opV op_mulB l_mulV (dv 3) (d_glob T.m_FIGURE T.v_FIGURE)))
    (s_one (s_if (t_cmp op_lt l_cmp (d_ix (dv 0) (dv 4)) (d_glob T.m_FIGURE T.v_FIGURE)) (s_cons (s_set 5 sc_number_at.nd (d_and (d_cmp (op_eqA hr.units) l_eq (d_ix (dv 0) (dv 4)) d_int) (d_one (d_cmp op_gt l_cmp (dv 4) (dv 1)))))
    (s_one (s_ret (d_ifExp (PW.pt (t_or (t_val (dv 5)) (t_or1 (t_cmp op_ge l_cmp (dv 2) (d_glob T.m_WHOLE_BOUND T.v_WHOLE_BOUND))))) d_non (d_tup (da_cons (dv 2) (da_cons (d_opV op_addA l_addV (dv 4) d_int) da_nil))))))) s_nil)))))
    (s_one (s_ret d_non)))))
theorem w_taken (T : Tx K mg A) (G_number_at : FnD P w K mg base 1 T.a_number_at T.fd_number_at [Str.ofString "row", Str.ofString "at"] (sp_number_at A)) (cdv : Value) (An : Around) (outer : List Env) (s : Shared) (H : Hp) (E : XK) (hr : RoomG 2 (An.deeper (envOfC "taken" (defScope s_taken) s.heap.objs.size T.a_taken cdv))) :
    PSs (cxOf (L2.CX P w) P w K mg base N_taken "taken" (defScope s_taken) T.a_taken cdv An outer s H E) (defBody s_taken) (lowS K (WF E) (r_taken A)) :=
  (s_cons (s_set 2 sc_taken.nd (d_call G_number_at (hr.mono (by decide)) T.m_number_at T.F_number_at.kp T.b_number_at tkF (da_cons (dv 0) (da_cons (dv 1) da_nil))))
    (s_cons (s_if (t_cmp op_isN l_isN (dv 2) d_non) (s_one (s_raise1 rfl tkF T.o_BadRow T.i_BadRow T.t_BadRow (gi_BadRow T) (hr.mono (by decide)) T.bi_BadRow T.m_BadRow (da_cons (dv 1) da_nil))) s_nil)
    (s_one (s_ret (dv 2)))))
theorem w_check_place (T : Tx K mg A) (G_is_within : FnD P w K mg base 2 T.a_is_within T.fd_is_within [Str.ofString "thing", Str.ofString "least", Str.ofString "most"] (sp_is_within A)) (G_check_row : FnD P w K mg base 5 T.a_check_row T.fd_check_row [Str.ofString "thing"] (sp_check_row A)) (cdv : Value) (An : Around) (outer : List Env) (s : Shared) (H : Hp) (E : XK) (hr : RoomG 5 (An.deeper (envOfC "check_place" (defScope s_check_place) s.heap.objs.size T.a_check_place cdv))) :
    PSs (cxOf (L2.CX P w) P w K mg base N_check_place "check_place" (defScope s_check_place) T.a_check_place cdv An outer s H E) (defBody s_check_place) (lowS K (WF E) (r_check_place A)) :=
  (s_cons (s_expr (d_call G_check_row (hr.mono (by decide)) T.m_check_row T.F_check_row.kp T.b_check_row tkF (da_cons (dv 0) da_nil)))
    (s_one (s_if (t_not (t_val (d_call G_is_within (hr.mono (by decide)) T.m_is_within T.F_is_within.kp T.b_is_within tkF (da_cons (dv 1) (da_cons d_int (da_cons (d_callB call_len l_len T.n_len bt_len (da_cons (dv 0) da_nil)) da_nil)))))) (s_one (s_raise0 rfl tkF T.x_NoPlace T.m_NoPlace)) s_nil)))
theorem w_Reader_init (T : Tx K mg A) (cdv : Value) (An : Around) (outer : List Env) (s : Shared) (H : Hp) (E : XK) (hr : RoomG 0 (An.deeper (envOfC "Reader.__init__" (defScope s_Reader_init) s.heap.objs.size T.a_Reader_init cdv))) :
    PSs (cxOf (L2.CX P w) P w K mg base N_Reader_init "Reader.__init__" (defScope s_Reader_init) T.a_Reader_init cdv An outer s H E) (defBody s_Reader_init) (lowS K (WF E) (r_Reader_init A)) :=
  (s_cons (s_setF (fcs_cons T.c_Reader T.na_Reader_row fcs_nil) (dv 0) (dv 1))
    (s_cons (s_setF (fcs_cons T.c_Reader T.na_Reader_at fcs_nil) (dv 0) (dv 2))
    (s_one (s_setF (fcs_cons T.c_Reader T.na_Reader_last fcs_nil) (dv 0) (dv 2)))))
theorem w_Reader_next_number (T : Tx K mg A) (G_taken : FnD P w K mg base 3 T.a_taken T.fd_taken [Str.ofString "row", Str.ofString "at"] (sp_taken A)) (cdv : Value) (An : Around) (outer : List Env) (s : Shared) (H : Hp) (E : XK) (hr : RoomG 3 (An.deeper (envOfC "Reader.next_number" (defScope s_Reader_next_number) s.heap.objs.size T.a_Reader_next_number cdv))) :
    PSs (cxOf (L2.CX P w) P w K mg base N_Reader_next_number "Reader.next_number" (defScope s_Reader_next_number) T.a_Reader_next_number cdv An outer s H E) (defBody s_Reader_next_number) (lowS K (WF E) (r_Reader_next_number A)) :=
  (s_cons (s_setF (fcs_cons T.c_Reader T.na_Reader_last fcs_nil) (dv 0) (d_fld (fcs_cons T.c_Reader T.na_Reader_at fcs_nil) (dv 0)))
    (s_cons (s_asg (d_call G_taken (hr.mono (by decide)) T.m_taken T.F_taken.kp T.b_taken tkF (da_cons (d_fld (fcs_cons T.c_Reader T.na_Reader_row fcs_nil) (dv 0)) (da_cons (d_fld (fcs_cons T.c_Reader T.na_Reader_at fcs_nil) (dv 0)) da_nil))) (g_tup (n := 2) rfl (g_cons (g_name 1 sc_Reader_next_number.nd) (g_cons (g_fld (W := W0) (fcs_cons T.c_Reader T.na_Reader_at fcs_nil) (dv 0)) g_nil))))
    (s_one (s_ret (dv 1)))))
theorem w_Reader_next_byte (T : Tx K mg A) (cdv : Value) (An : Around) (outer : List Env) (s : Shared) (H : Hp) (E : XK) (hr : RoomG 2 (An.deeper (envOfC "Reader.next_byte" (defScope s_Reader_next_byte) s.heap.objs.size T.a_Reader_next_byte cdv))) :
    PSs (cxOf (L2.CX P w) P w K mg base N_Reader_next_byte "Reader.next_byte" (defScope s_Reader_next_byte) T.a_Reader_next_byte cdv An outer s H E) (defBody s_Reader_next_byte) (lowS K (WF E) (r_Reader_next_byte A)) :=
  (s_cons (s_setF (fcs_cons T.c_Reader T.na_Reader_last fcs_nil) (dv 0) (d_fld (fcs_cons T.c_Reader T.na_Reader_at fcs_nil) (dv 0)))
    (s_cons (s_if (t_cmp op_ge l_cmp (d_fld (fcs_cons T.c_Reader T.na_Reader_at fcs_nil) (dv 0)) (d_callB call_len l_len T.n_len bt_len (da_cons (d_fld (fcs_cons T.c_Reader T.na_Reader_row fcs_nil) (dv 0)) da_nil))) (s_one (s_raise1 rfl tkF T.o_BadRow T.i_BadRow T.t_BadRow (gi_BadRow T) (hr.mono (by decide)) T.bi_BadRow T.m_BadRow (da_cons (d_fld (fcs_cons T.c_Reader T.na_Reader_at fcs_nil) (dv 0)) da_nil))) s_nil)
    (s_cons (s_augF (fcs_cons T.c_Reader T.na_Reader_at fcs_nil) in_add l_fadd (dv 0) d_int)
    (s_one (s_ret (d_ix (d_fld (fcs_cons T.c_Reader T.na_Reader_row fcs_nil) (dv 0)) (d_op op_sub l_sub (d_fld (fcs_cons T.c_Reader T.na_Reader_at fcs_nil) (dv 0)) d_int)))))))
theorem w_is_input (T : Tx K mg A) (G_is_below : FnD P w K mg base 3 T.a_is_below T.fd_is_below [Str.ofString "thing", Str.ofString "many"] (sp_is_below A)) (cdv : Value) (An : Around) (outer : List Env) (s : Shared) (H : Hp) (E : XK) (hr : RoomG 3 (An.deeper (envOfC "is_input" (defScope s_is_input) s.heap.objs.size T.a_is_input cdv))) :
    PSs (cxOf (L2.CX P w) P w K mg base N_is_input "is_input" (defScope s_is_input) T.a_is_input cdv An outer s H E) (defBody s_is_input) (lowS K (WF E) (r_is_input A)) :=
  (s_one (s_ret (d_call G_is_below (hr.mono (by decide)) T.m_is_below T.F_is_below.kp T.b_is_below tkF (da_cons (dv 0) (da_cons (d_glob T.m_BYTE T.v_BYTE) da_nil)))))
theorem w_are_inputs (T : Tx K mg A) (G_is_input : FnD P w K mg base 4 T.a_is_input T.fd_is_input [Str.ofString "thing"] (sp_is_input A)) (cdv : Value) (An : Around) (outer : List Env) (s : Shared) (H : Hp) (E : XK) (hr : RoomG 4 (An.deeper (envOfC "are_inputs" (defScope s_are_inputs) s.heap.objs.size T.a_are_inputs cdv))) :
    PSs (cxOf (L2.CX P w) P w K mg base N_are_inputs "are_inputs" (defScope s_are_inputs) T.a_are_inputs cdv An outer s H E) (defBody s_are_inputs) (lowS K (WF E) (r_are_inputs A)) :=
  (s_one (s_ret (d_and (d_callB call_isiA (l_isi T.ot) T.n_isinstance bt_isinstance (da_cons (dv 0) (da_cons (d_ty T.n_tuple bt_tuple) da_nil))) (d_and (d_cmp op_le l_cmp (d_callB call_len l_len T.n_len bt_len (da_cons (dv 0) da_nil)) (d_glob T.m_MOST_INPUTS T.v_MOST_INPUTS)) (d_one (d_callB (cr_all rfl) l_all T.n_all bt_all (da_cons (d_frz (d_lc (own := [(Str.ofString "item", 1)]) rfl sc_are_inputs.nd (i_seq (dv 0)) (blkOk_by (N := N_are_inputs) (sc := defScope s_are_inputs) (by decide +kernel)) (fun _ _ _ _ _ => (pg_name (i := 1) sc_are_inputs.nd rfl (Or.inl rfl))) (ng_name (by decide)) (fun _ _ _ _ _ => c_nil) (fun _ _ _ _ _ => (d_call G_is_input (hr.mono (by decide)) T.m_is_input T.F_is_input.kp T.b_is_input takes0 (da_cons (dv 1) da_nil))))) da_nil)))))))
theorem w_check_inputs (T : Tx K mg A) (G_are_inputs : FnD P w K mg base 5 T.a_are_inputs T.fd_are_inputs [Str.ofString "thing"] (sp_are_inputs A)) (cdv : Value) (An : Around) (outer : List Env) (s : Shared) (H : Hp) (E : XK) (hr : RoomG 5 (An.deeper (envOfC "check_inputs" (defScope s_check_inputs) s.heap.objs.size T.a_check_inputs cdv))) :
    PSs (cxOf (L2.CX P w) P w K mg base N_check_inputs "check_inputs" (defScope s_check_inputs) T.a_check_inputs cdv An outer s H E) (defBody s_check_inputs) (lowS K (WF E) (r_check_inputs A)) :=
  (s_one (s_if (t_not (t_val (d_call G_are_inputs (hr.mono (by decide)) T.m_are_inputs T.F_are_inputs.kp T.b_are_inputs tkF (da_cons (dv 0) da_nil)))) (s_one (s_raise0 rfl tkF T.x_NoInputs T.m_NoInputs)) s_nil))
theorem w_check_input (T : Tx K mg A) (G_is_input : FnD P w K mg base 4 T.a_is_input T.fd_is_input [Str.ofString "thing"] (sp_is_input A)) (cdv : Value) (An : Around) (outer : List Env) (s : Shared) (H : Hp) (E : XK) (hr : RoomG 4 (An.deeper (envOfC "check_input" (defScope s_check_input) s.heap.objs.size T.a_check_input cdv))) :
    PSs (cxOf (L2.CX P w) P w K mg base N_check_input "check_input" (defScope s_check_input) T.a_check_input cdv An outer s H E) (defBody s_check_input) (lowS K (WF E) (r_check_input A)) :=
  (s_one (s_if (t_not (t_val (d_call G_is_input (hr.mono (by decide)) T.m_is_input T.F_is_input.kp T.b_is_input tkF (da_cons (dv 0) da_nil)))) (s_one (s_raise0 rfl tkF T.x_NoInputs T.m_NoInputs)) s_nil))
theorem w_runs_of (T : Tx K mg A) (cdv : Value) (An : Around) (outer : List Env) (s : Shared) (H : Hp) (E : XK) (hr : RoomG 0 (An.deeper (envOfC "runs_of" (defScope s_runs_of) s.heap.objs.size T.a_runs_of cdv))) :
    PSs (cxOf (L2.CX P w) P w K mg base N_runs_of "runs_of" (defScope s_runs_of) T.a_runs_of cdv An outer s H E) (defBody s_runs_of) (lowS K (WF E) (r_runs_of A)) :=
  (s_cons (s_set 1 sc_runs_of.nd (d_lst da_nil))
    (s_cons (s_for (passes_of rfl) rfl (i_seq (dv 0)) (g_name 2 sc_runs_of.nd) (s_one (s_if (PW.pt (t_and (t_cmp op_gt l_cmp (d_callB call_len l_len T.n_len bt_len (da_cons (dv 1) da_nil)) d_int) (t_and1 (t_cmp (op_eqA hr.units) l_eq (d_ix (d_ix (dv 1) (d_neg d_int)) d_int) (dv 2))))) (s_one (s_asg (d_tup (da_cons (dv 2) (da_cons (d_opV op_addA l_addV (d_ix (d_ix (dv 1) (d_neg d_int)) d_int) d_int) da_nil))) (g_sub (W := W0) set_list l_set (dv 1) (d_neg d_int)))) (s_one (s_expr (d_bm PySem.F.slot_list_append PySem.F.type_list_append mt_append l_append (dv 1) (da_cons (d_tup (da_cons (dv 2) (da_cons d_int da_nil))) da_nil)))))))
    (s_one (s_ret (d_frz (dv 1))))))
theorem w_run_row (T : Tx K mg A) (G_figures_of : FnD P w K mg base 1 T.a_figures_of T.fd_figures_of [Str.ofString "number"] (sp_figures_of A)) (G_runs_of : FnD P w K mg base 1 T.a_runs_of T.fd_runs_of [Str.ofString "inputs"] (sp_runs_of A)) (cdv : Value) (An : Around) (outer : List Env) (s : Shared) (H : Hp) (E : XK) (hr : RoomG 1 (An.deeper (envOfC "run_row" (defScope s_run_row) s.heap.objs.size T.a_run_row cdv))) :
    PSs (cxOf (L2.CX P w) P w K mg base N_run_row "run_row" (defScope s_run_row) T.a_run_row cdv An outer s H E) (defBody s_run_row) (lowS K (WF E) (r_run_row A)) :=
  (s_cons (s_set 1 sc_run_row.nd (d_call G_runs_of (hr.mono (by decide)) T.m_runs_of T.F_runs_of.kp T.b_runs_of tkF (da_cons (dv 0) da_nil)))
    (s_cons (s_set 2 sc_run_row.nd (d_callTy call_list_of l_list T.n_list bt_list (da_cons (d_call G_figures_of (hr.mono (by decide)) T.m_figures_of T.F_figures_of.kp T.b_figures_of tkF (da_cons (d_callB call_len l_len T.n_len bt_len (da_cons (dv 1) da_nil)) da_nil)) da_nil)))
    (s_cons (s_for (passes_of rfl) rfl (i_seq (dv 1)) (g_tup (n := 2) rfl (g_cons (g_name 3 sc_run_row.nd) (g_cons (g_name 4 sc_run_row.nd) g_nil))) (s_cons (s_expr (d_bm PySem.F.slot_list_append PySem.F.type_list_append mt_append l_append (dv 2) (da_cons (dv 3) da_nil)))
    (s_one (s_expr (d_bm PySem.F.slot_list_extend PySem.F.type_list_extend mt_extB l_extB (dv 2) (da_cons (d_call G_figures_of (hr.mono (by decide)) T.m_figures_of T.F_figures_of.kp T.b_figures_of tkF (da_cons (dv 4) da_nil)) da_nil))))))
    (s_one (s_ret (d_callTy call_tuple_of l_tuple T.n_tuple bt_tuple (da_cons (dv 2) da_nil)))))))
theorem w_input_row (T : Tx K mg A) (G_check_inputs : FnD P w K mg base 6 T.a_check_inputs T.fd_check_inputs [Str.ofString "thing"] (sp_check_inputs A)) (G_run_row : FnD P w K mg base 2 T.a_run_row T.fd_run_row [Str.ofString "inputs"] (sp_run_row A)) (cdv : Value) (An : Around) (outer : List Env) (s : Shared) (H : Hp) (E : XK) (hr : RoomG 6 (An.deeper (envOfC "input_row" (defScope s_input_row) s.heap.objs.size T.a_input_row cdv))) :
    PSs (cxOf (L2.CX P w) P w K mg base N_input_row "input_row" (defScope s_input_row) T.a_input_row cdv An outer s H E) (defBody s_input_row) (lowS K (WF E) (r_input_row A)) :=
  (s_cons (s_expr (d_call G_check_inputs (hr.mono (by decide)) T.m_check_inputs T.F_check_inputs.kp T.b_check_inputs tkF (da_cons (dv 0) da_nil)))
    (s_one (s_ret (d_call G_run_row (hr.mono (by decide)) T.m_run_row T.F_run_row.kp T.b_run_row tkF (da_cons (dv 0) da_nil)))))
theorem w_taken_inputs (T : Tx K mg A) (G_Reader_next_number : FnD P w K mg base 4 T.a_Reader_next_number T.fd_Reader_next_number [Str.ofString "self"] (sp_Reader_next_number A)) (G_Reader_next_byte : FnD P w K mg base 3 T.a_Reader_next_byte T.fd_Reader_next_byte [Str.ofString "self"] (sp_Reader_next_byte A)) (cdv : Value) (An : Around) (outer : List Env) (s : Shared) (H : Hp) (E : XK) (hr : RoomG 4 (An.deeper (envOfC "taken_inputs" (defScope s_taken_inputs) s.heap.objs.size T.a_taken_inputs cdv))) :
    PSs (cxOf (L2.CX P w) P w K mg base N_taken_inputs "taken_inputs" (defScope s_taken_inputs) T.a_taken_inputs cdv An outer s H E) (defBody s_taken_inputs) (lowS K (WF E) (r_taken_inputs A)) :=
  (s_cons (s_set 1 sc_taken_inputs.nd (d_lst da_nil))
    (s_cons (s_for (passes_of rfl) rfl (i_r1 T.n_range (da_cons (d_meth0 (k := 4) (mts_cons (mt_mk T.c_Reader T.me_Reader_next_number G_Reader_next_number T.b_Reader_next_number (by decide)) mts_nil) (hr.mono (by decide)) tkF (dv 0)) da_nil)) (g_name 2 sc_taken_inputs.nd) (s_cons (s_set 3 sc_taken_inputs.nd (d_meth0 (k := 3) (mts_cons (mt_mk T.c_Reader T.me_Reader_next_byte G_Reader_next_byte T.b_Reader_next_byte (by decide)) mts_nil) (hr.mono (by decide)) tkF (dv 0)))
    (s_cons (s_set 4 sc_taken_inputs.nd (d_fld (fcs_cons T.c_Reader T.na_Reader_last fcs_nil) (dv 0)))
    (s_cons (s_set 5 sc_taken_inputs.nd (d_meth0 (k := 4) (mts_cons (mt_mk T.c_Reader T.me_Reader_next_number G_Reader_next_number T.b_Reader_next_number (by decide)) mts_nil) (hr.mono (by decide)) tkF (dv 0)))
    (s_cons (s_if (PW.pt (t_or (t_cmp (op_eqA hr.units) l_eq (dv 5) d_int) (t_or (t_cmp op_gt l_cmp (d_opV op_addA l_addV (d_callB call_len l_len T.n_len bt_len (da_cons (dv 1) da_nil)) (dv 5)) (d_glob T.m_MOST_INPUTS T.v_MOST_INPUTS)) (t_or1 (PW.pt (t_and (t_cmp op_gt l_cmp (d_callB call_len l_len T.n_len bt_len (da_cons (dv 1) da_nil)) d_int) (t_and1 (t_cmp (op_eqA hr.units) l_eq (d_ix (dv 1) (d_neg d_int)) (dv 3))))))))) (s_one (s_raise1 rfl tkF T.o_BadRow T.i_BadRow T.t_BadRow (gi_BadRow T) (hr.mono (by decide)) T.bi_BadRow T.m_BadRow (da_cons (dv 4) da_nil))) s_nil)
    (s_one (s_expr (d_bm PySem.F.slot_list_extend PySem.F.type_list_extend mt_extB l_extB (dv 1) (da_cons (d_opV op_mulB l_mulV (d_lstV (da_cons (dv 3) da_nil)) (dv 5)) da_nil)))))))))
    (s_one (s_ret (d_callTy call_tuple_of l_tuple T.n_tuple bt_tuple (da_cons (dv 1) da_nil))))))
theorem w_read_inputs (T : Tx K mg A) (G_check_place : FnD P w K mg base 6 T.a_check_place T.fd_check_place [Str.ofString "row", Str.ofString "at"] (sp_check_place A)) (G_Reader_init : FnD P w K mg base 1 T.a_Reader_init T.fd_Reader_init [Str.ofString "self", Str.ofString "row", Str.ofString "at"] (sp_Reader_init A)) (G_taken_inputs : FnD P w K mg base 5 T.a_taken_inputs T.fd_taken_inputs [Str.ofString "reader"] (sp_taken_inputs A)) (cdv : Value) (An : Around) (outer : List Env) (s : Shared) (H : Hp) (E : XK) (hr : RoomG 6 (An.deeper (envOfC "read_inputs" (defScope s_read_inputs) s.heap.objs.size T.a_read_inputs cdv))) :
    PSs (cxOf (L2.CX P w) P w K mg base N_read_inputs "read_inputs" (defScope s_read_inputs) T.a_read_inputs cdv An outer s H E) (defBody s_read_inputs) (lowS K (WF E) (r_read_inputs A)) :=
  (s_cons (s_expr (d_call G_check_place (hr.mono (by decide)) T.m_check_place T.F_check_place.kp T.b_check_place tkF (da_cons (dv 0) (da_cons (dv 1) da_nil))))
    (s_cons (s_set 2 sc_read_inputs.nd (d_mkM (mk_Reader A) T.mk_Reader G_Reader_init (hr.mono (by decide)) T.m_Reader T.b_Reader_init tkF (da_cons (dv 0) (da_cons (dv 1) da_nil))))
    (s_cons (s_set 3 sc_read_inputs.nd (d_call G_taken_inputs (hr.mono (by decide)) T.m_taken_inputs T.F_taken_inputs.kp T.b_taken_inputs tkF (da_cons (dv 2) da_nil)))
    (s_one (s_ret (d_tup (da_cons (dv 3) (da_cons (d_fld (fcs_cons T.c_Reader T.na_Reader_at fcs_nil) (dv 2)) da_nil))))))))
theorem w_guessed (T : Tx K mg A) (cdv : Value) (An : Around) (outer : List Env) (s : Shared) (H : Hp) (E : XK) (hr : RoomG 0 (An.deeper (envOfC "guessed" (defScope s_guessed) s.heap.objs.size T.a_guessed cdv))) :
    PSs (cxOf (L2.CX P w) P w K mg base N_guessed "guessed" (defScope s_guessed) T.a_guessed cdv An outer s H E) (defBody s_guessed) (lowS K (WF E) (r_guessed A)) :=
  (s_one (s_ret (d_ifExp (PW.pt (t_and (t_cmp op_notN l_notN (dv 0) d_non) (t_and1 (t_cmp op_le l_cmp (dv 1) (dv 2))))) (dv 0) d_int)))
theorem w_guess (T : Tx K mg A) (G_is_within : FnD P w K mg base 2 T.a_is_within T.fd_is_within [Str.ofString "thing", Str.ofString "least", Str.ofString "most"] (sp_is_within A)) (G_check_input : FnD P w K mg base 5 T.a_check_input T.fd_check_input [Str.ofString "thing"] (sp_check_input A)) (G_guessed : FnD P w K mg base 1 T.a_guessed T.fd_guessed [Str.ofString "last", Str.ofString "ago", Str.ofString "hold"] (sp_guessed A)) (cdv : Value) (An : Around) (outer : List Env) (s : Shared) (H : Hp) (E : XK) (hr : RoomG 5 (An.deeper (envOfC "guess" (defScope s_guess) s.heap.objs.size T.a_guess cdv))) :
    PSs (cxOf (L2.CX P w) P w K mg base N_guess "guess" (defScope s_guess) T.a_guess cdv An outer s H E) (defBody s_guess) (lowS K (WF E) (r_guess A)) :=
  (s_cons (s_if (t_cmp op_notN l_notN (dv 0) d_non) (s_one (s_expr (d_call G_check_input (hr.mono (by decide)) T.m_check_input T.F_check_input.kp T.b_check_input tkF (da_cons (dv 0) da_nil)))) s_nil)
    (s_cons (s_if (PW.pt (t_or (t_not (t_val (d_call G_is_within (hr.mono (by decide)) T.m_is_within T.F_is_within.kp T.b_is_within tkF (da_cons (dv 1) (da_cons d_int (da_cons (d_glob T.m_MOST_AGO T.v_MOST_AGO) da_nil)))))) (t_or1 (t_not (t_val (d_call G_is_within (hr.mono (by decide)) T.m_is_within T.F_is_within.kp T.b_is_within tkF (da_cons (dv 2) (da_cons d_int (da_cons (d_glob T.m_MOST_HOLD T.v_MOST_HOLD) da_nil))))))))) (s_one (s_raise0 rfl tkF T.x_NoNumber T.m_NoNumber)) s_nil)
    (s_one (s_ret (d_call G_guessed (hr.mono (by decide)) T.m_guessed T.F_guessed.kp T.b_guessed tkF (da_cons (dv 0) (da_cons (dv 1) (da_cons (dv 2) da_nil))))))))
theorem w__law_hand (T : Tx K mg A) (cdv : Value) (An : Around) (outer : List Env) (s : Shared) (H : Hp) (E : XK) (hr : RoomG 0 (An.deeper (envOfC "_law_hand" (defScope s__law_hand) s.heap.objs.size T.a__law_hand cdv))) :
    PSs (cxOf (L2.CX P w) P w K mg base N__law_hand "_law_hand" (defScope s__law_hand) T.a__law_hand cdv An outer s H E) (defBody s__law_hand) (lowS K (WF E) (r__law_hand A)) :=
  (s_one (s_ret (d_lst (da_cons (d_lc (own := [(Str.ofString "_law_cell", 1)]) rfl sc__law_hand.nd (i_seq (d_slV (dv 0) o_none (o_some d_int))) (blkOk_by (N := N__law_hand) (sc := defScope s__law_hand) (by decide +kernel)) (fun _ _ _ _ _ => (pg_name (i := 1) sc__law_hand.nd rfl (Or.inl rfl))) (ng_name (by decide)) (fun _ _ _ _ _ => c_nil) (fun _ _ _ _ _ => (d_callTy call_int1 l_int T.n_int bt_int (da_cons (dv 1) da_nil)))) (da_cons d_int (da_cons d_int (da_cons (d_opV op_addA l_addV d_int (d_callB call_len l_len T.n_len bt_len (da_cons (d_slV (dv 0) o_none (o_some d_int)) da_nil))) (da_cons d_int da_nil))))))))
theorem w__law_draw (T : Tx K mg A) (cdv : Value) (An : Around) (outer : List Env) (s : Shared) (H : Hp) (E : XK) (hr : RoomG 0 (An.deeper (envOfC "_law_draw" (defScope s__law_draw) s.heap.objs.size T.a__law_draw cdv))) :
    PSs (cxOf (L2.CX P w) P w K mg base N__law_draw "_law_draw" (defScope s__law_draw) T.a__law_draw cdv An outer s H E) (defBody s__law_draw) (lowS K (WF E) (r__law_draw A)) :=
  (s_cons (s_if (PW.pt (t_and (t_cmp (op_eqA hr.units) l_eq (d_ix (dv 0) d_int) d_int) (t_and1 (t_cmp op_lt l_cmp (d_ix (dv 0) d_int) (d_callB call_len l_len T.n_len bt_len (da_cons (d_ix (dv 0) d_int) da_nil)))))) (s_cons (s_set 2 sc__law_draw.nd (d_ix (d_ix (dv 0) d_int) (d_ix (dv 0) d_int)))
    (s_cons (s_asg (d_opV op_addA l_addV (d_ix (dv 0) d_int) d_int) (g_sub (W := W0) set_list l_set (dv 0) d_int))
    (s_cons (s_asg (d_op op_mod l_mod (d_callTy call_int1 l_int T.n_int bt_int (da_cons (d_opV op_addA l_addV (d_opV op_addA l_addV (d_opV op_mulB l_mulV (d_ix (dv 0) d_int) d_int) (d_opV op_mulB l_mulV (dv 2) d_int)) d_int) da_nil)) d_int) (g_sub (W := W0) set_list l_set (dv 0) d_int))
    (s_one (s_if (t_cmp op_ge l_cmp (dv 2) (d_op op_pow l_pow d_int d_int)) (s_one (s_asg (dv 2) (g_sub (W := W0) set_list l_set (dv 0) d_int))) s_nil))))) s_nil)
    (s_cons (s_if (t_cmp op_gt l_cmp (d_ix (dv 0) d_int) d_int) (s_cons (s_set 3 sc__law_draw.nd (d_op op_mod l_mod (d_callTy call_int1 l_int T.n_int bt_int (da_cons (d_ix (dv 0) d_int) da_nil)) (dv 1)))
    (s_cons (s_asg (d_op op_divP l_div (d_ix (dv 0) d_int) (dv 1)) (g_sub (W := W0) set_list l_set (dv 0) d_int))
    (s_one (s_ret (dv 3))))) s_nil)
    (s_cons (s_asg (d_opV op_addA l_addV (d_ix (dv 0) d_int) d_int) (g_sub (W := W0) set_list l_set (dv 0) d_int))
    (s_cons (s_set 4 sc__law_draw.nd (d_op op_mod l_mod (d_callTy call_int1 l_int T.n_int bt_int (da_cons (d_opV op_mulB l_mulV (d_callTy call_int1 l_int T.n_int bt_int (da_cons (d_opV op_addA l_addV (d_ix (dv 0) d_int) (d_opV op_mulB l_mulV d_int (d_ix (dv 0) d_int))) da_nil)) d_int) da_nil)) d_int))
    (s_cons (s_set 4 sc__law_draw.nd (d_op op_mod l_mod (d_callTy call_int1 l_int T.n_int bt_int (da_cons (d_opV op_mulB l_mulV (dv 4) (d_opV op_addA l_addV (d_op op_divP l_div (dv 4) d_int) d_int)) da_nil)) d_int))
    (s_cons (s_set 4 sc__law_draw.nd (d_op op_mod l_mod (d_callTy call_int1 l_int T.n_int bt_int (da_cons (d_opV op_mulB l_mulV (dv 4) (d_opV op_addA l_addV (d_op op_divP l_div (dv 4) d_int) d_int)) da_nil)) d_int))
    (s_one (s_ret (d_op op_mod l_mod (d_callTy call_int1 l_int T.n_int bt_int (da_cons (d_op op_divP l_div (dv 4) d_int) da_nil)) (dv 1))))))))))
theorem w__law_is (T : Tx K mg A) (j : Nat) (hj : 0 ≤ j) (sp_self : SpD) (G__law_is : FnD P w K mg base j T.a__law_is T.fd__law_is [Str.ofString "_law_told", Str.ofString "_law_due"] sp_self) (cdv : Value) (An : Around) (outer : List Env) (s : Shared) (H : Hp) (E : XK) (hr : RoomG j (An.deeper (envOfC "_law_is" (defScope s__law_is) s.heap.objs.size T.a__law_is cdv))) :
    PSs (cxOf (L2.CX P w) P w K mg base N__law_is "_law_is" (defScope s__law_is) T.a__law_is cdv An outer s H E) (defBody s__law_is) (lowS K (WF E) (r__law_is A sp_self)) :=
  (s_cons (s_if (t_val (d_callB call_isiA (l_isi T.ot) T.n_isinstance bt_isinstance (da_cons (dv 1) (da_cons (d_tup (da_cons (d_ty T.n_tuple bt_tuple) (da_cons (d_ty T.n_list bt_list) da_nil))) da_nil)))) (s_cons (s_if (PW.pt (t_or (t_cmp (op_neA hr.units) l_eq (d_callB call_isiA (l_isi T.ot) T.n_isinstance bt_isinstance (da_cons (dv 0) (da_cons (d_ty T.n_tuple bt_tuple) da_nil))) (d_callB call_isiA (l_isi T.ot) T.n_isinstance bt_isinstance (da_cons (dv 1) (da_cons (d_ty T.n_tuple bt_tuple) da_nil)))) (t_or1 (t_not (t_val (d_callB call_isiA (l_isi T.ot) T.n_isinstance bt_isinstance (da_cons (dv 0) (da_cons (d_tup (da_cons (d_ty T.n_tuple bt_tuple) (da_cons (d_ty T.n_list bt_list) da_nil))) da_nil)))))))) (s_one (s_ret d_bl)) s_nil)
    (s_one (s_ret (d_and (d_cmp (op_eqA hr.units) l_eq (d_callB call_len l_len T.n_len bt_len (da_cons (dv 0) da_nil)) (d_callB call_len l_len T.n_len bt_len (da_cons (dv 1) da_nil))) (d_one (d_callB (cr_all rfl) l_all T.n_all bt_all (da_cons (d_frz (d_lc (own := [(Str.ofString "_law_one", 2), (Str.ofString "_law_two", 3)]) rfl sc__law_is.nd (i_zip T.n_zip (da_cons (dv 0) (da_cons (dv 1) da_nil))) (blkOk_by (N := N__law_is) (sc := defScope s__law_is) (by decide +kernel)) (fun _ _ _ _ _ => (pg_tup rfl (pgs_cons (pg_name (i := 2) sc__law_is.nd rfl (Or.inl rfl)) (pgs_cons (pg_name (i := 3) sc__law_is.nd rfl (Or.inl rfl)) pgs_nil)))) (ng_tup (ngs_cons (ng_name (by decide)) (ngs_cons (ng_name (by decide)) ngs_nil))) (fun _ _ _ _ _ => c_nil) (fun _ _ _ _ _ => (d_call G__law_is hr T.m__law_is T.F__law_is.kp T.b__law_is takes0 (da_cons (dv 2) (da_cons (dv 3) da_nil)))))) da_nil))))))) s_nil)
    (s_one (s_ret (d_and (d_cmp (op_eqA hr.units) l_eq (d_callB call_isiA (l_isi T.ot) T.n_isinstance bt_isinstance (da_cons (dv 0) (da_cons (d_ty T.n_bool bt_bool) da_nil))) (d_callB call_isiA (l_isi T.ot) T.n_isinstance bt_isinstance (da_cons (dv 1) (da_cons (d_ty T.n_bool bt_bool) da_nil)))) (d_one (d_cmp (op_eqA hr.units) l_eq (dv 0) (dv 1)))))))
theorem w__law_whole (T : Tx K mg A) (cdv : Value) (An : Around) (outer : List Env) (s : Shared) (H : Hp) (E : XK) (hr : RoomG 0 (An.deeper (envOfC "_law_whole" (defScope s__law_whole) s.heap.objs.size T.a__law_whole cdv))) :
    PSs (cxOf (L2.CX P w) P w K mg base N__law_whole "_law_whole" (defScope s__law_whole) T.a__law_whole cdv An outer s H E) (defBody s__law_whole) (lowS K (WF E) (r__law_whole A)) :=
  (s_cons (s_set 1 sc__law_whole.nd (d_lst da_nil))
    (s_cons (s_for (passes_of rfl) rfl (i_r1 T.n_range (da_cons d_int da_nil)) (g_name 2 sc__law_whole.nd) (s_cons (s_if (t_cmp op_lt l_cmp (dv 0) d_int) (s_one s_break) s_nil)
    (s_cons (s_expr (d_bm PySem.F.slot_list_append PySem.F.type_list_append mt_append l_append (dv 1) (da_cons (d_opV op_addA l_addV (d_op op_mod l_mod (d_callTy call_int1 l_int T.n_int bt_int (da_cons (dv 0) da_nil)) d_int) d_int) da_nil)))
    (s_one (s_set 0 sc__law_whole.nd (d_op op_divP l_div (dv 0) d_int))))))
    (s_one (s_ret (d_callTy call_tuple_of l_tuple T.n_tuple bt_tuple (da_cons (d_opV op_addA l_addV (dv 1) (d_lstV (da_cons (dv 0) da_nil))) da_nil))))))
theorem w__law_read (T : Tx K mg A) (cdv : Value) (An : Around) (outer : List Env) (s : Shared) (H : Hp) (E : XK) (hr : RoomG 0 (An.deeper (envOfC "_law_read" (defScope s__law_read) s.heap.objs.size T.a__law_read cdv))) :
    PSs (cxOf (L2.CX P w) P w K mg base N__law_read "_law_read" (defScope s__law_read) T.a__law_read cdv An outer s H E) (defBody s__law_read) (lowS K (WF E) (r__law_read A)) :=
  (s_cons (s_for (passes_of rfl) rfl (i_r1 T.n_range (da_cons d_int da_nil)) (g_name 2 sc__law_read.nd) (s_cons (s_if (t_cmp op_ge l_cmp (d_opV op_addA l_addV (dv 1) (dv 2)) (d_callB call_len l_len T.n_len bt_len (da_cons (dv 0) da_nil))) (s_one (s_ret d_non)) s_nil)
    (s_one (s_if (t_cmp op_lt l_cmp (d_ix (dv 0) (d_opV op_addA l_addV (dv 1) (dv 2))) d_int) (s_cons (s_if (PW.pt (t_and (t_cmp op_gt l_cmp (dv 2) d_int) (t_and1 (t_cmp (op_eqA hr.units) l_eq (d_ix (dv 0) (d_opV op_addA l_addV (dv 1) (dv 2))) d_int)))) (s_one (s_ret d_non)) s_nil)
    (s_cons (s_set 3 sc__law_read.nd d_int)
    (s_cons (s_for (passes_of rfl) rfl (i_r3 T.n_range (da_cons (d_opV op_addA l_addV (dv 1) (dv 2)) (da_cons (d_op op_sub l_sub (dv 1) d_int) (da_cons (d_neg d_int) da_nil)))) (g_name 4 sc__law_read.nd) (s_one (s_set 3 sc__law_read.nd (d_opV op_addA l_addV (d_opV op_mulB l_mulV (dv 3) d_int) (d_op op_mod l_mod (d_callTy call_int1 l_int T.n_int bt_int (da_cons (d_ix (dv 0) (dv 4)) da_nil)) d_int)))))
    (s_cons (s_if (t_cmp op_ge l_cmp (dv 3) (d_op op_pow l_pow d_int d_int)) (s_one (s_ret d_non)) s_nil)
    (s_one (s_ret (d_tup (da_cons (dv 3) (da_cons (d_opV op_addA l_addV (d_opV op_addA l_addV (dv 1) (dv 2)) d_int) da_nil))))))))) s_nil))))
    (s_one (s_ret d_non)))
theorem w__law_byte (T : Tx K mg A) (G__law_draw : FnD P w K mg base 1 T.a__law_draw T.fd__law_draw [Str.ofString "_law_hand_here", Str.ofString "_law_many"] (sp__law_draw A)) (cdv : Value) (An : Around) (outer : List Env) (s : Shared) (H : Hp) (E : XK) (hr : RoomG 1 (An.deeper (envOfC "_law_byte" (defScope s__law_byte) s.heap.objs.size T.a__law_byte cdv))) :
    PSs (cxOf (L2.CX P w) P w K mg base N__law_byte "_law_byte" (defScope s__law_byte) T.a__law_byte cdv An outer s H E) (defBody s__law_byte) (lowS K (WF E) (r__law_byte A)) :=
  (s_cons (s_if (t_cmp (op_eqA hr.units) l_eq (d_call G__law_draw (hr.mono (by decide)) T.m__law_draw T.F__law_draw.kp T.b__law_draw tkF (da_cons (dv 0) (da_cons d_int da_nil))) d_int) (s_one (s_ret (d_ix (d_lstV (da_cons d_int (da_cons d_int (da_cons d_int (da_cons d_int (da_cons d_int (da_cons d_int da_nil))))))) (d_call G__law_draw (hr.mono (by decide)) T.m__law_draw T.F__law_draw.kp T.b__law_draw tkF (da_cons (dv 0) (da_cons d_int da_nil)))))) s_nil)
    (s_one (s_ret (d_call G__law_draw (hr.mono (by decide)) T.m__law_draw T.F__law_draw.kp T.b__law_draw tkF (da_cons (dv 0) (da_cons d_int da_nil))))))
theorem w__law_bytes (T : Tx K mg A) (G__law_draw : FnD P w K mg base 1 T.a__law_draw T.fd__law_draw [Str.ofString "_law_hand_here", Str.ofString "_law_many"] (sp__law_draw A)) (G__law_byte : FnD P w K mg base 2 T.a__law_byte T.fd__law_byte [Str.ofString "_law_hand_here"] (sp__law_byte A)) (cdv : Value) (An : Around) (outer : List Env) (s : Shared) (H : Hp) (E : XK) (hr : RoomG 2 (An.deeper (envOfC "_law_bytes" (defScope s__law_bytes) s.heap.objs.size T.a__law_bytes cdv))) :
    PSs (cxOf (L2.CX P w) P w K mg base N__law_bytes "_law_bytes" (defScope s__law_bytes) T.a__law_bytes cdv An outer s H E) (defBody s__law_bytes) (lowS K (WF E) (r__law_bytes A)) :=
  (s_one (s_ret (d_callTy call_tuple_of l_tuple T.n_tuple bt_tuple (da_cons (d_frz (d_lc (own := [(Str.ofString "_law_turn", 2)]) rfl sc__law_bytes.nd (i_r1 T.n_range (da_cons (d_call G__law_draw (hr.mono (by decide)) T.m__law_draw T.F__law_draw.kp T.b__law_draw tkF (da_cons (dv 0) (da_cons (d_opV op_addA l_addV (dv 1) d_int) da_nil))) da_nil)) (blkOk_by (N := N__law_bytes) (sc := defScope s__law_bytes) (by decide +kernel)) (fun _ _ _ _ _ => (pg_name (i := 2) sc__law_bytes.nd rfl (Or.inl rfl))) (ng_name (by decide)) (fun _ _ _ _ _ => c_nil) (fun _ _ _ _ _ => (d_call G__law_byte (hr.mono (by decide)) T.m__law_byte T.F__law_byte.kp T.b__law_byte takes0 (da_cons (dv 0) da_nil))))) da_nil))))
theorem w__law_spoilt (T : Tx K mg A) (G__law_draw : FnD P w K mg base 1 T.a__law_draw T.fd__law_draw [Str.ofString "_law_hand_here", Str.ofString "_law_many"] (sp__law_draw A)) (G__law_byte : FnD P w K mg base 2 T.a__law_byte T.fd__law_byte [Str.ofString "_law_hand_here"] (sp__law_byte A)) (G__law_bytes : FnD P w K mg base 3 T.a__law_bytes T.fd__law_bytes [Str.ofString "_law_hand_here", Str.ofString "_law_most"] (sp__law_bytes A)) (cdv : Value) (An : Around) (outer : List Env) (s : Shared) (H : Hp) (E : XK) (hr : RoomG 3 (An.deeper (envOfC "_law_spoilt" (defScope s__law_spoilt) s.heap.objs.size T.a__law_spoilt cdv))) :
    PSs (cxOf (L2.CX P w) P w K mg base N__law_spoilt "_law_spoilt" (defScope s__law_spoilt) T.a__law_spoilt cdv An outer s H E) (defBody s__law_spoilt) (lowS K (WF E) (r__law_spoilt A)) :=
  (s_cons (s_set 2 sc__law_spoilt.nd (d_call G__law_draw (hr.mono (by decide)) T.m__law_draw T.F__law_draw.kp T.b__law_draw tkF (da_cons (dv 0) (da_cons d_int da_nil))))
    (s_cons (s_set 3 sc__law_spoilt.nd (d_call G__law_draw (hr.mono (by decide)) T.m__law_draw T.F__law_draw.kp T.b__law_draw tkF (da_cons (dv 0) (da_cons (d_opV op_addA l_addV (d_callB call_len l_len T.n_len bt_len (da_cons (dv 1) da_nil)) d_int) da_nil))))
    (s_cons (s_if (t_cmp (op_eqA hr.units) l_eq (dv 2) d_int) (s_one (s_ret (d_opV op_addA l_addV (d_opV op_addA l_addV (d_slV (dv 1) o_none (o_some (dv 3))) (d_tup (da_cons (d_call G__law_byte (hr.mono (by decide)) T.m__law_byte T.F__law_byte.kp T.b__law_byte tkF (da_cons (dv 0) da_nil)) da_nil))) (d_slV (dv 1) (o_some (d_opV op_addA l_addV (dv 3) d_int)) o_none)))) s_nil)
    (s_cons (s_if (t_cmp (op_eqA hr.units) l_eq (dv 2) d_int) (s_one (s_ret (d_opV op_addA l_addV (d_opV op_addA l_addV (d_slV (dv 1) o_none (o_some (dv 3))) (d_tup (da_cons (d_call G__law_byte (hr.mono (by decide)) T.m__law_byte T.F__law_byte.kp T.b__law_byte tkF (da_cons (dv 0) da_nil)) da_nil))) (d_slV (dv 1) (o_some (dv 3)) o_none)))) s_nil)
    (s_cons (s_if (t_cmp (op_eqA hr.units) l_eq (dv 2) d_int) (s_one (s_ret (d_opV op_addA l_addV (d_slV (dv 1) o_none (o_some (dv 3))) (d_slV (dv 1) (o_some (d_opV op_addA l_addV (dv 3) d_int)) o_none)))) s_nil)
    (s_cons (s_if (t_cmp (op_eqA hr.units) l_eq (dv 2) d_int) (s_one (s_ret (d_slV (dv 1) o_none (o_some (dv 3))))) s_nil)
    (s_one (s_ret (d_opV op_addA l_addV (dv 1) (d_call G__law_bytes (hr.mono (by decide)) T.m__law_bytes T.F__law_bytes.kp T.b__law_bytes tkF (da_cons (dv 0) (da_cons d_int da_nil))))))))))))
theorem w__law_runs (T : Tx K mg A) (G__law_draw : FnD P w K mg base 1 T.a__law_draw T.fd__law_draw [Str.ofString "_law_hand_here", Str.ofString "_law_many"] (sp__law_draw A)) (G__law_byte : FnD P w K mg base 2 T.a__law_byte T.fd__law_byte [Str.ofString "_law_hand_here"] (sp__law_byte A)) (cdv : Value) (An : Around) (outer : List Env) (s : Shared) (H : Hp) (E : XK) (hr : RoomG 2 (An.deeper (envOfC "_law_runs" (defScope s__law_runs) s.heap.objs.size T.a__law_runs cdv))) :
    PSs (cxOf (L2.CX P w) P w K mg base N__law_runs "_law_runs" (defScope s__law_runs) T.a__law_runs cdv An outer s H E) (defBody s__law_runs) (lowS K (WF E) (r__law_runs A)) :=
  (s_cons (s_set 1 sc__law_runs.nd (d_call G__law_draw (hr.mono (by decide)) T.m__law_draw T.F__law_draw.kp T.b__law_draw tkF (da_cons (dv 0) (da_cons d_int da_nil))))
    (s_cons (s_set 2 sc__law_runs.nd (d_lst da_nil))
    (s_cons (s_for (passes_of rfl) rfl (i_r1 T.n_range (da_cons (d_call G__law_draw (hr.mono (by decide)) T.m__law_draw T.F__law_draw.kp T.b__law_draw tkF (da_cons (dv 0) (da_cons d_int da_nil))) da_nil)) (g_name 3 sc__law_runs.nd) (s_cons (s_set 4 sc__law_runs.nd (d_opV op_addA l_addV d_int (d_call G__law_draw (hr.mono (by decide)) T.m__law_draw T.F__law_draw.kp T.b__law_draw tkF (da_cons (dv 0) (da_cons (d_ix (d_lstV (da_cons d_int (da_cons d_int (da_cons d_int da_nil)))) (d_call G__law_draw (hr.mono (by decide)) T.m__law_draw T.F__law_draw.kp T.b__law_draw tkF (da_cons (dv 0) (da_cons d_int da_nil)))) da_nil)))))
    (s_one (s_expr (d_bm PySem.F.slot_list_append PySem.F.type_list_append mt_append l_append (dv 2) (da_cons (d_tup (da_cons (d_call G__law_byte (hr.mono (by decide)) T.m__law_byte T.F__law_byte.kp T.b__law_byte tkF (da_cons (dv 0) da_nil)) (da_cons (dv 4) da_nil))) da_nil))))))
    (s_cons (s_if (PW.pt (t_and (t_cmp (op_eqA hr.units) l_eq (dv 1) d_int) (t_and1 (t_cmp op_gt l_cmp (d_callB call_len l_len T.n_len bt_len (da_cons (dv 2) da_nil)) d_int)))) (s_one (s_asg (d_tup (da_cons (d_ix (d_ix (dv 2) d_int) d_int) (da_cons (d_opV op_addA l_addV d_int (d_ix (d_ix (dv 2) d_int) d_int)) da_nil))) (g_sub (W := W0) set_list l_set (dv 2) d_int))) s_nil)
    (s_one (s_ret (d_frz (dv 2))))))))
theorem w__law_ticks (T : Tx K mg A) (cdv : Value) (An : Around) (outer : List Env) (s : Shared) (H : Hp) (E : XK) (hr : RoomG 0 (An.deeper (envOfC "_law_ticks" (defScope s__law_ticks) s.heap.objs.size T.a__law_ticks cdv))) :
    PSs (cxOf (L2.CX P w) P w K mg base N__law_ticks "_law_ticks" (defScope s__law_ticks) T.a__law_ticks cdv An outer s H E) (defBody s__law_ticks) (lowS K (WF E) (r__law_ticks A)) :=
  (s_cons (s_set 1 sc__law_ticks.nd (d_lst da_nil))
    (s_cons (s_for (passes_of rfl) rfl (i_seq (dv 0)) (g_tup (n := 2) rfl (g_cons (g_name 2 sc__law_ticks.nd) (g_cons (g_name 3 sc__law_ticks.nd) g_nil))) (s_one (s_expr (d_bm PySem.F.slot_list_extend PySem.F.type_list_extend mt_extB l_extB (dv 1) (da_cons (d_opV op_mulB l_mulV (d_lstV (da_cons (dv 2) da_nil)) (dv 3)) da_nil)))))
    (s_one (s_ret (d_callTy call_tuple_of l_tuple T.n_tuple bt_tuple (da_cons (dv 1) da_nil))))))
theorem w__law_run_bytes (T : Tx K mg A) (G__law_whole : FnD P w K mg base 1 T.a__law_whole T.fd__law_whole [Str.ofString "_law_number"] (sp__law_whole A)) (cdv : Value) (An : Around) (outer : List Env) (s : Shared) (H : Hp) (E : XK) (hr : RoomG 1 (An.deeper (envOfC "_law_run_bytes" (defScope s__law_run_bytes) s.heap.objs.size T.a__law_run_bytes cdv))) :
    PSs (cxOf (L2.CX P w) P w K mg base N__law_run_bytes "_law_run_bytes" (defScope s__law_run_bytes) T.a__law_run_bytes cdv An outer s H E) (defBody s__law_run_bytes) (lowS K (WF E) (r__law_run_bytes A)) :=
  (s_cons (s_set 1 sc__law_run_bytes.nd (d_callTy call_list_of l_list T.n_list bt_list (da_cons (d_call G__law_whole (hr.mono (by decide)) T.m__law_whole T.F__law_whole.kp T.b__law_whole tkF (da_cons (d_callB call_len l_len T.n_len bt_len (da_cons (dv 0) da_nil)) da_nil)) da_nil)))
    (s_cons (s_for (passes_of rfl) rfl (i_seq (dv 0)) (g_tup (n := 2) rfl (g_cons (g_name 2 sc__law_run_bytes.nd) (g_cons (g_name 3 sc__law_run_bytes.nd) g_nil))) (s_cons (s_expr (d_bm PySem.F.slot_list_append PySem.F.type_list_append mt_append l_append (dv 1) (da_cons (dv 2) da_nil)))
    (s_one (s_expr (d_bm PySem.F.slot_list_extend PySem.F.type_list_extend mt_extB l_extB (dv 1) (da_cons (d_call G__law_whole (hr.mono (by decide)) T.m__law_whole T.F__law_whole.kp T.b__law_whole tkF (da_cons (dv 3) da_nil)) da_nil))))))
    (s_one (s_ret (d_callTy call_tuple_of l_tuple T.n_tuple bt_tuple (da_cons (dv 1) da_nil))))))
theorem w__law_input_bytes (T : Tx K mg A) (G__law_run_bytes : FnD P w K mg base 2 T.a__law_run_bytes T.fd__law_run_bytes [Str.ofString "_law_runs_here"] (sp__law_run_bytes A)) (cdv : Value) (An : Around) (outer : List Env) (s : Shared) (H : Hp) (E : XK) (hr : RoomG 2 (An.deeper (envOfC "_law_input_bytes" (defScope s__law_input_bytes) s.heap.objs.size T.a__law_input_bytes cdv))) :
    PSs (cxOf (L2.CX P w) P w K mg base N__law_input_bytes "_law_input_bytes" (defScope s__law_input_bytes) T.a__law_input_bytes cdv An outer s H E) (defBody s__law_input_bytes) (lowS K (WF E) (r__law_input_bytes A)) :=
  (s_cons (s_set 1 sc__law_input_bytes.nd (d_lst da_nil))
    (s_cons (s_set 2 sc__law_input_bytes.nd d_int)
    (s_cons (s_for (passes_of rfl) rfl (i_r2 T.n_range (da_cons d_int (da_cons (d_opV op_addA l_addV (d_callB call_len l_len T.n_len bt_len (da_cons (dv 0) da_nil)) d_int) da_nil))) (g_name 3 sc__law_input_bytes.nd) (s_one (s_if (PW.pt (t_or (t_cmp (op_eqA hr.units) l_eq (dv 3) (d_callB call_len l_len T.n_len bt_len (da_cons (dv 0) da_nil))) (t_or1 (t_cmp (op_neA hr.units) l_eq (d_ix (dv 0) (dv 3)) (d_ix (dv 0) (dv 2)))))) (s_cons (s_expr (d_bm PySem.F.slot_list_append PySem.F.type_list_append mt_append l_append (dv 1) (da_cons (d_tup (da_cons (d_ix (dv 0) (dv 2)) (da_cons (d_op op_sub l_sub (dv 3) (dv 2)) da_nil))) da_nil)))
    (s_one (s_set 2 sc__law_input_bytes.nd (dv 3)))) s_nil)))
    (s_one (s_ret (d_call G__law_run_bytes (hr.mono (by decide)) T.m__law_run_bytes T.F__law_run_bytes.kp T.b__law_run_bytes tkF (da_cons (d_frz (dv 1)) da_nil)))))))
theorem w__law_parsed (T : Tx K mg A) (G__law_read : FnD P w K mg base 1 T.a__law_read T.fd__law_read [Str.ofString "_law_row", Str.ofString "_law_at"] (sp__law_read A)) (cdv : Value) (An : Around) (outer : List Env) (s : Shared) (H : Hp) (E : XK) (hr : RoomG 1 (An.deeper (envOfC "_law_parsed" (defScope s__law_parsed) s.heap.objs.size T.a__law_parsed cdv))) :
    PSs (cxOf (L2.CX P w) P w K mg base N__law_parsed "_law_parsed" (defScope s__law_parsed) T.a__law_parsed cdv An outer s H E) (defBody s__law_parsed) (lowS K (WF E) (r__law_parsed A)) :=
  (s_cons (s_set 2 sc__law_parsed.nd (d_call G__law_read (hr.mono (by decide)) T.m__law_read T.F__law_read.kp T.b__law_read tkF (da_cons (dv 0) (da_cons (dv 1) da_nil))))
    (s_cons (s_if (t_cmp op_isN l_isN (dv 2) d_non) (s_one (s_ret (d_tup (da_cons d_non (da_cons d_int (da_cons (dv 1) da_nil)))))) s_nil)
    (s_cons (s_set 3 sc__law_parsed.nd (d_ix (dv 2) d_int))
    (s_cons (s_set 4 sc__law_parsed.nd (d_lst da_nil))
    (s_cons (s_for (passes_of rfl) rfl (i_r1 T.n_range (da_cons (d_callB (call_minA rfl) l_minL T.n_min bt_min (da_cons (d_ix (dv 2) d_int) (da_cons (d_opV op_addA l_addV (d_callB call_len l_len T.n_len bt_len (da_cons (dv 0) da_nil)) d_int) da_nil))) da_nil)) (g_name 5 sc__law_parsed.nd) (s_cons (s_if (t_cmp op_ge l_cmp (dv 3) (d_callB call_len l_len T.n_len bt_len (da_cons (dv 0) da_nil))) (s_one (s_ret (d_tup (da_cons d_non (da_cons d_int (da_cons (dv 3) da_nil)))))) s_nil)
    (s_cons (s_set 6 sc__law_parsed.nd (d_call G__law_read (hr.mono (by decide)) T.m__law_read T.F__law_read.kp T.b__law_read tkF (da_cons (dv 0) (da_cons (d_opV op_addA l_addV (dv 3) d_int) da_nil))))
    (s_cons (s_if (t_cmp op_isN l_isN (dv 6) d_non) (s_one (s_ret (d_tup (da_cons d_non (da_cons d_int (da_cons (d_opV op_addA l_addV (dv 3) d_int) da_nil)))))) s_nil)
    (s_cons (s_if (PW.pt (t_or (t_cmp (op_eqA hr.units) l_eq (d_ix (dv 6) d_int) d_int) (t_or (t_cmp op_gt l_cmp (d_opV op_addA l_addV (d_callB call_len l_len T.n_len bt_len (da_cons (dv 4) da_nil)) (d_ix (dv 6) d_int)) d_int) (t_or1 (t_cmp (op_eqA hr.units) l_eq (d_slV (dv 4) (o_some (d_neg d_int)) o_none) (d_lstV (da_cons (d_ix (dv 0) (dv 3)) da_nil))))))) (s_one (s_ret (d_tup (da_cons d_non (da_cons d_int (da_cons (dv 3) da_nil)))))) s_nil)
    (s_cons (s_expr (d_bm PySem.F.slot_list_extend PySem.F.type_list_extend mt_extB l_extB (dv 4) (da_cons (d_opV op_mulB l_mulV (d_lstV (da_cons (d_ix (dv 0) (dv 3)) da_nil)) (d_ix (dv 6) d_int)) da_nil)))
    (s_one (s_set 3 sc__law_parsed.nd (d_ix (dv 6) d_int)))))))))
    (s_one (s_ret (d_tup (da_cons (d_callTy call_tuple_of l_tuple T.n_tuple bt_tuple (da_cons (dv 4) da_nil)) (da_cons (dv 3) (da_cons (d_neg d_int) da_nil)))))))))))
theorem w__law_read_told (T : Tx K mg A) (G_read_inputs : FnD P w K mg base 7 T.a_read_inputs T.fd_read_inputs [Str.ofString "row", Str.ofString "at"] (sp_read_inputs A)) (cdv : Value) (An : Around) (outer : List Env) (s : Shared) (H : Hp) (E : XK) (hr : RoomG 7 (An.deeper (envOfC "_law_read_told" (defScope s__law_read_told) s.heap.objs.size T.a__law_read_told cdv))) :
    PSs (cxOf (L2.CX P w) P w K mg base N__law_read_told "_law_read_told" (defScope s__law_read_told) T.a__law_read_told cdv An outer s H E) (defBody s__law_read_told) (lowS K (WF E) (r__law_read_told A)) :=
  (s_one (s_take 2 sc__law_read_told.nd (nm_own T.m_BadRow) (tabs_cons T.e_NoRow_BadRow (tabs_cons T.e_NoPlace_BadRow (tabs_cons T.e_BadRow_BadRow tabs_nil))) (fun W2 pn2 xe2 tk2 => (s_one (s_ret (d_tup (da_cons d_str (da_cons (d_call G_read_inputs (hr.mono (by decide)) T.m_read_inputs T.F_read_inputs.kp T.b_read_inputs tk2 (da_cons (dv 0) (da_cons (dv 1) da_nil))) da_nil)))))) (fun ea oe ecls eda pn hz hf => (s_one (s_ret (d_tup (da_cons d_str (da_cons (d_xf T.z_BadRow T.nf_BadRow hz hf (dv 2)) da_nil))))))))
theorem w__law_is_told (T : Tx K mg A) (G_input_row : FnD P w K mg base 7 T.a_input_row T.fd_input_row [Str.ofString "inputs"] (sp_input_row A)) (G__law_is : FnD P w K mg base 4 T.a__law_is T.fd__law_is [Str.ofString "_law_told", Str.ofString "_law_due"] (sp__law_is A 4)) (G__law_parsed : FnD P w K mg base 2 T.a__law_parsed T.fd__law_parsed [Str.ofString "_law_row", Str.ofString "_law_at"] (sp__law_parsed A)) (G__law_read_told : FnD P w K mg base 8 T.a__law_read_told T.fd__law_read_told [Str.ofString "_law_row", Str.ofString "_law_at"] (sp__law_read_told A)) (cdv : Value) (An : Around) (outer : List Env) (s : Shared) (H : Hp) (E : XK) (hr : RoomG 8 (An.deeper (envOfC "_law_is_told" (defScope s__law_is_told) s.heap.objs.size T.a__law_is_told cdv))) :
    PSs (cxOf (L2.CX P w) P w K mg base N__law_is_told "_law_is_told" (defScope s__law_is_told) T.a__law_is_told cdv An outer s H E) (defBody s__law_is_told) (lowS K (WF E) (r__law_is_told A)) :=
  (s_cons (s_asg (d_call G__law_parsed (hr.mono (by decide)) T.m__law_parsed T.F__law_parsed.kp T.b__law_parsed tkF (da_cons (dv 0) (da_cons (dv 1) da_nil))) (g_tup (n := 3) rfl (g_cons (g_name 2 sc__law_is_told.nd) (g_cons (g_name 3 sc__law_is_told.nd) (g_cons (g_name 4 sc__law_is_told.nd) g_nil)))))
    (s_cons (s_set 5 sc__law_is_told.nd (d_call G__law_read_told (hr.mono (by decide)) T.m__law_read_told T.F__law_read_told.kp T.b__law_read_told tkF (da_cons (dv 0) (da_cons (dv 1) da_nil))))
    (s_cons (s_if (t_cmp op_isN l_isN (dv 2) d_non) (s_one (s_ret (d_call G__law_is (hr.mono (by decide)) T.m__law_is T.F__law_is.kp T.b__law_is tkF (da_cons (dv 5) (da_cons (d_tup (da_cons d_str (da_cons (dv 4) da_nil))) da_nil))))) s_nil)
    (s_cons (s_if (PW.pt (t_or (t_not (t_val (d_callB call_isiA (l_isi T.ot) T.n_isinstance bt_isinstance (da_cons (d_ix (dv 5) d_int) (da_cons (d_ty T.n_tuple bt_tuple) da_nil))))) (t_or1 (t_cmp (op_neA hr.units) l_eq (dv 5) (d_tup (da_cons d_str (da_cons (d_tup (da_cons (dv 2) (da_cons (dv 3) da_nil))) da_nil))))))) (s_one (s_ret d_bl)) s_nil)
    (s_one (s_ret (d_cmp (op_eqA hr.units) l_eq (d_call G_input_row (hr.mono (by decide)) T.m_input_row T.F_input_row.kp T.b_input_row tkF (da_cons (dv 2) da_nil)) (d_slV (dv 0) (o_some (dv 1)) (o_some (dv 3))))))))))
theorem w__law_wrong_runs (T : Tx K mg A) (G__law_draw : FnD P w K mg base 1 T.a__law_draw T.fd__law_draw [Str.ofString "_law_hand_here", Str.ofString "_law_many"] (sp__law_draw A)) (G__law_byte : FnD P w K mg base 2 T.a__law_byte T.fd__law_byte [Str.ofString "_law_hand_here"] (sp__law_byte A)) (cdv : Value) (An : Around) (outer : List Env) (s : Shared) (H : Hp) (E : XK) (hr : RoomG 2 (An.deeper (envOfC "_law_wrong_runs" (defScope s__law_wrong_runs) s.heap.objs.size T.a__law_wrong_runs cdv))) :
    PSs (cxOf (L2.CX P w) P w K mg base N__law_wrong_runs "_law_wrong_runs" (defScope s__law_wrong_runs) T.a__law_wrong_runs cdv An outer s H E) (defBody s__law_wrong_runs) (lowS K (WF E) (r__law_wrong_runs A)) :=
  (s_cons (s_set 2 sc__law_wrong_runs.nd (d_call G__law_draw (hr.mono (by decide)) T.m__law_draw T.F__law_draw.kp T.b__law_draw tkF (da_cons (dv 0) (da_cons (d_opV op_addA l_addV (d_callB call_len l_len T.n_len bt_len (da_cons (dv 1) da_nil)) d_int) da_nil))))
    (s_cons (s_set 3 sc__law_wrong_runs.nd (d_call G__law_draw (hr.mono (by decide)) T.m__law_draw T.F__law_draw.kp T.b__law_draw tkF (da_cons (dv 0) (da_cons d_int da_nil))))
    (s_cons (s_if (t_cmp (op_eqA hr.units) l_eq (dv 3) d_int) (s_one (s_ret (d_opV op_addA l_addV (d_opV op_addA l_addV (d_slV (dv 1) o_none (o_some (dv 2))) (d_lstV (da_cons (d_tup (da_cons (d_call G__law_byte (hr.mono (by decide)) T.m__law_byte T.F__law_byte.kp T.b__law_byte tkF (da_cons (dv 0) da_nil)) (da_cons d_int da_nil))) da_nil))) (d_slV (dv 1) (o_some (dv 2)) o_none)))) s_nil)
    (s_cons (s_if (PW.pt (t_and (t_cmp (op_eqA hr.units) l_eq (dv 3) d_int) (t_and1 (t_cmp op_gt l_cmp (dv 2) d_int)))) (s_one (s_ret (d_opV op_addA l_addV (d_opV op_addA l_addV (d_slV (dv 1) o_none (o_some (dv 2))) (d_lstV (da_cons (d_tup (da_cons (d_ix (d_ix (dv 1) (d_op op_sub l_sub (dv 2) d_int)) d_int) (da_cons (d_opV op_addA l_addV d_int (d_call G__law_draw (hr.mono (by decide)) T.m__law_draw T.F__law_draw.kp T.b__law_draw tkF (da_cons (dv 0) (da_cons d_int da_nil)))) da_nil))) da_nil))) (d_slV (dv 1) (o_some (dv 2)) o_none)))) s_nil)
    (s_one (s_ret (d_opV op_addA l_addV (d_opV op_addA l_addV (d_slV (dv 1) o_none (o_some (dv 2))) (d_lstV (da_cons (d_tup (da_cons (d_call G__law_byte (hr.mono (by decide)) T.m__law_byte T.F__law_byte.kp T.b__law_byte tkF (da_cons (dv 0) da_nil)) (da_cons (d_ix (d_lstV (da_cons d_int (da_cons d_int (da_cons d_int (da_cons (d_op op_pow l_pow d_int d_int) da_nil))))) (d_call G__law_draw (hr.mono (by decide)) T.m__law_draw T.F__law_draw.kp T.b__law_draw tkF (da_cons (dv 0) (da_cons d_int da_nil)))) da_nil))) da_nil))) (d_slV (dv 1) (o_some (dv 2)) o_none))))))))
theorem w__law_is_guess (T : Tx K mg A) (G_guess : FnD P w K mg base 6 T.a_guess T.fd_guess [Str.ofString "last", Str.ofString "ago", Str.ofString "hold"] (sp_guess A)) (G__law_draw : FnD P w K mg base 1 T.a__law_draw T.fd__law_draw [Str.ofString "_law_hand_here", Str.ofString "_law_many"] (sp__law_draw A)) (G__law_is : FnD P w K mg base 4 T.a__law_is T.fd__law_is [Str.ofString "_law_told", Str.ofString "_law_due"] (sp__law_is A 4)) (cdv : Value) (An : Around) (outer : List Env) (s : Shared) (H : Hp) (E : XK) (hr : RoomG 6 (An.deeper (envOfC "_law_is_guess" (defScope s__law_is_guess) s.heap.objs.size T.a__law_is_guess cdv))) :
    PSs (cxOf (L2.CX P w) P w K mg base N__law_is_guess "_law_is_guess" (defScope s__law_is_guess) T.a__law_is_guess cdv An outer s H E) (defBody s__law_is_guess) (lowS K (WF E) (r__law_is_guess A)) :=
  (s_cons (s_set 1 sc__law_is_guess.nd (d_ix (d_lstV (da_cons d_non (da_cons d_int (da_cons d_int (da_cons (d_call G__law_draw (hr.mono (by decide)) T.m__law_draw T.F__law_draw.kp T.b__law_draw tkF (da_cons (dv 0) (da_cons d_int da_nil))) da_nil))))) (d_call G__law_draw (hr.mono (by decide)) T.m__law_draw T.F__law_draw.kp T.b__law_draw tkF (da_cons (dv 0) (da_cons d_int da_nil)))))
    (s_cons (s_set 2 sc__law_is_guess.nd (d_ix (d_lstV (da_cons d_int (da_cons d_int (da_cons d_int (da_cons (d_call G__law_draw (hr.mono (by decide)) T.m__law_draw T.F__law_draw.kp T.b__law_draw tkF (da_cons (dv 0) (da_cons d_int da_nil))) da_nil))))) (d_call G__law_draw (hr.mono (by decide)) T.m__law_draw T.F__law_draw.kp T.b__law_draw tkF (da_cons (dv 0) (da_cons d_int da_nil)))))
    (s_cons (s_for (passes_of rfl) rfl (i_seq (d_lstV (da_cons d_int (da_cons (dv 2) (da_cons (d_opV op_addA l_addV (dv 2) d_int) (da_cons (d_callB (call_maxA rfl) l_maxL T.n_max bt_max (da_cons d_int (da_cons (d_op op_sub l_sub (dv 2) d_int) da_nil))) (da_cons d_int (da_cons (d_call G__law_draw (hr.mono (by decide)) T.m__law_draw T.F__law_draw.kp T.b__law_draw tkF (da_cons (dv 0) (da_cons d_int da_nil))) da_nil)))))))) (g_name 3 sc__law_is_guess.nd) (s_cons (s_set 4 sc__law_is_guess.nd d_int)
    (s_cons (s_if (PW.pt (t_and (t_cmp op_notN l_notN (dv 1) d_non) (t_and1 (t_cmp op_le l_cmp (dv 3) (dv 2))))) (s_one (s_set 4 sc__law_is_guess.nd (dv 1))) s_nil)
    (s_one (s_if (t_not (t_val (d_call G__law_is (hr.mono (by decide)) T.m__law_is T.F__law_is.kp T.b__law_is tkF (da_cons (d_call G_guess (hr.mono (by decide)) T.m_guess T.F_guess.kp T.b_guess tkF (da_cons (dv 1) (da_cons (dv 3) (da_cons (dv 2) da_nil)))) (da_cons (dv 4) da_nil))))) (s_one (s_ret d_bl)) s_nil)))))
    (s_one (s_ret d_bl)))))
theorem w_law (T : Tx K mg A) (G_input_row : FnD P w K mg base 7 T.a_input_row T.fd_input_row [Str.ofString "inputs"] (sp_input_row A)) (G__law_hand : FnD P w K mg base 1 T.a__law_hand T.fd__law_hand [Str.ofString "_law_script"] (sp__law_hand A)) (G__law_draw : FnD P w K mg base 1 T.a__law_draw T.fd__law_draw [Str.ofString "_law_hand_here", Str.ofString "_law_many"] (sp__law_draw A)) (G__law_is : FnD P w K mg base 4 T.a__law_is T.fd__law_is [Str.ofString "_law_told", Str.ofString "_law_due"] (sp__law_is A 4)) (G__law_bytes : FnD P w K mg base 3 T.a__law_bytes T.fd__law_bytes [Str.ofString "_law_hand_here", Str.ofString "_law_most"] (sp__law_bytes A)) (G__law_spoilt : FnD P w K mg base 4 T.a__law_spoilt T.fd__law_spoilt [Str.ofString "_law_hand_here", Str.ofString "_law_row"] (sp__law_spoilt A)) (G__law_runs : FnD P w K mg base 3 T.a__law_runs T.fd__law_runs [Str.ofString "_law_hand_here"] (sp__law_runs A)) (G__law_ticks : FnD P w K mg base 1 T.a__law_ticks T.fd__law_ticks [Str.ofString "_law_runs_here"] (sp__law_ticks A)) (G__law_run_bytes : FnD P w K mg base 2 T.a__law_run_bytes T.fd__law_run_bytes [Str.ofString "_law_runs_here"] (sp__law_run_bytes A)) (G__law_input_bytes : FnD P w K mg base 3 T.a__law_input_bytes T.fd__law_input_bytes [Str.ofString "_law_inputs"] (sp__law_input_bytes A)) (G__law_read_told : FnD P w K mg base 8 T.a__law_read_told T.fd__law_read_told [Str.ofString "_law_row", Str.ofString "_law_at"] (sp__law_read_told A)) (G__law_is_told : FnD P w K mg base 9 T.a__law_is_told T.fd__law_is_told [Str.ofString "_law_row", Str.ofString "_law_at"] (sp__law_is_told A)) (G__law_wrong_runs : FnD P w K mg base 3 T.a__law_wrong_runs T.fd__law_wrong_runs [Str.ofString "_law_hand_here", Str.ofString "_law_runs_here"] (sp__law_wrong_runs A)) (G__law_is_guess : FnD P w K mg base 7 T.a__law_is_guess T.fd__law_is_guess [Str.ofString "_law_hand_here"] (sp__law_is_guess A)) (cdv : Value) (An : Around) (outer : List Env) (s : Shared) (H : Hp) (E : XK) (hr : RoomG 9 (An.deeper (envOfC "law" (defScope s_law) s.heap.objs.size T.a_law cdv))) :
    PSs (cxOf (L2.CX P w) P w K mg base N_law "law" (defScope s_law) T.a_law cdv An outer s H E) (defBody s_law) (lowS K (WF E) (r_law A)) :=
  (s_cons (s_set 1 sc_law.nd (d_call G__law_hand (hr.mono (by decide)) T.m__law_hand T.F__law_hand.kp T.b__law_hand tkF (da_cons (dv 0) da_nil)))
    (s_cons (s_set 2 sc_law.nd (d_call G__law_draw (hr.mono (by decide)) T.m__law_draw T.F__law_draw.kp T.b__law_draw tkF (da_cons (dv 1) (da_cons d_int da_nil))))
    (s_cons (s_set 3 sc_law.nd (d_call G__law_runs (hr.mono (by decide)) T.m__law_runs T.F__law_runs.kp T.b__law_runs tkF (da_cons (dv 1) da_nil)))
    (s_cons (s_set 4 sc_law.nd (d_call G__law_ticks (hr.mono (by decide)) T.m__law_ticks T.F__law_ticks.kp T.b__law_ticks tkF (da_cons (dv 3) da_nil)))
    (s_cons (s_set 5 sc_law.nd (d_call G_input_row (hr.mono (by decide)) T.m_input_row T.F_input_row.kp T.b_input_row tkF (da_cons (dv 4) da_nil)))
    (s_cons (s_set 6 sc_law.nd (d_call G__law_input_bytes (hr.mono (by decide)) T.m__law_input_bytes T.F__law_input_bytes.kp T.b__law_input_bytes tkF (da_cons (dv 4) da_nil)))
    (s_cons (s_if (t_not (t_val (d_call G__law_is (hr.mono (by decide)) T.m__law_is T.F__law_is.kp T.b__law_is tkF (da_cons (dv 5) (da_cons (dv 6) da_nil))))) (s_one (s_ret d_bl)) s_nil)
    (s_cons (s_set 7 sc_law.nd (d_call G__law_bytes (hr.mono (by decide)) T.m__law_bytes T.F__law_bytes.kp T.b__law_bytes tkF (da_cons (dv 1) (da_cons d_int da_nil))))
    (s_cons (s_set 8 sc_law.nd (d_call G__law_bytes (hr.mono (by decide)) T.m__law_bytes T.F__law_bytes.kp T.b__law_bytes tkF (da_cons (dv 1) (da_cons d_int da_nil))))
    (s_cons (s_if (t_cmp (op_neA hr.units) l_eq (d_call G__law_read_told (hr.mono (by decide)) T.m__law_read_told T.F__law_read_told.kp T.b__law_read_told tkF (da_cons (d_opV op_addA l_addV (d_opV op_addA l_addV (dv 7) (dv 6)) (dv 8)) (da_cons (d_callB call_len l_len T.n_len bt_len (da_cons (dv 7) da_nil)) da_nil))) (d_tup (da_cons d_str (da_cons (d_tup (da_cons (dv 4) (da_cons (d_opV op_addA l_addV (d_callB call_len l_len T.n_len bt_len (da_cons (dv 7) da_nil)) (d_callB call_len l_len T.n_len bt_len (da_cons (dv 6) da_nil))) da_nil))) da_nil)))) (s_one (s_ret d_bl)) s_nil)
    (s_cons (s_for (passes_of rfl) rfl (i_r1 T.n_range (da_cons (dv 2) da_nil)) (g_name 9 sc_law.nd) (s_cons (s_set 5 sc_law.nd (d_call G__law_spoilt (hr.mono (by decide)) T.m__law_spoilt T.F__law_spoilt.kp T.b__law_spoilt tkF (da_cons (dv 1) (da_cons (dv 5) da_nil))))
    (s_one (s_if (t_not (t_val (d_call G__law_is_told (hr.mono (by decide)) T.m__law_is_told T.F__law_is_told.kp T.b__law_is_told tkF (da_cons (d_opV op_addA l_addV (d_opV op_addA l_addV (dv 7) (dv 5)) (dv 8)) (da_cons (d_callB call_len l_len T.n_len bt_len (da_cons (dv 7) da_nil)) da_nil))))) (s_one (s_ret d_bl)) s_nil))))
    (s_cons (s_setLcV 10 (own := [(Str.ofString "_law_item", 13), (Str.ofString "_law_ticks_here", 14)]) rfl sc_law.nd (sw_true rfl rfl rfl (by decide +kernel)) (i_seq (dv 3)) (blkOk_by (N := N_law) (sc := defScope s_law) (by decide +kernel)) (fun _ _ _ _ _ => (pg_tup rfl (pgs_cons (pg_name (i := 13) sc_law.nd rfl (Or.inl rfl)) (pgs_cons (pg_name (i := 14) sc_law.nd rfl (Or.inl rfl)) pgs_nil)))) (ng_tup (ngs_cons (ng_name (by decide)) (ngs_cons (ng_name (by decide)) ngs_nil))) (fun _ _ _ _ _ => (c_one (t_cmp op_lt l_cmp (dv 14) d_int))) (fun _ _ _ _ _ => (d_tup (da_cons (dv 13) (da_cons (dv 14) da_nil)))))
    (s_cons (s_if (t_not (t_val (d_call G__law_is_told (hr.mono (by decide)) T.m__law_is_told T.F__law_is_told.kp T.b__law_is_told tkF (da_cons (d_opV op_addA l_addV (dv 7) (d_call G__law_run_bytes (hr.mono (by decide)) T.m__law_run_bytes T.F__law_run_bytes.kp T.b__law_run_bytes tkF (da_cons (d_call G__law_wrong_runs (hr.mono (by decide)) T.m__law_wrong_runs T.F__law_wrong_runs.kp T.b__law_wrong_runs tkF (da_cons (dv 1) (da_cons (dv 10) da_nil))) da_nil))) (da_cons (d_callB call_len l_len T.n_len bt_len (da_cons (dv 7) da_nil)) da_nil))))) (s_one (s_ret d_bl)) s_nil)
    (s_cons (s_set 11 sc_law.nd (d_call G__law_bytes (hr.mono (by decide)) T.m__law_bytes T.F__law_bytes.kp T.b__law_bytes tkF (da_cons (dv 1) (da_cons d_int da_nil))))
    (s_cons (s_for (passes_of rfl) rfl (i_r1 T.n_range (da_cons (d_opV op_addA l_addV (d_callB call_len l_len T.n_len bt_len (da_cons (dv 11) da_nil)) d_int) da_nil)) (g_name 12 sc_law.nd) (s_one (s_if (t_not (t_val (d_call G__law_is_told (hr.mono (by decide)) T.m__law_is_told T.F__law_is_told.kp T.b__law_is_told tkF (da_cons (dv 11) (da_cons (dv 12) da_nil))))) (s_one (s_ret d_bl)) s_nil)))
    (s_one (s_ret (d_and (d_call G__law_is_guess (hr.mono (by decide)) T.m__law_is_guess T.F__law_is_guess.kp T.b__law_is_guess tkF (da_cons (dv 1) da_nil)) (d_one (d_cmp (op_eqA hr.units) l_eq (d_call G_input_row (hr.mono (by decide)) T.m_input_row T.F_input_row.kp T.b_input_row tkF (da_cons (dv 4) da_nil)) (dv 6)))))))))))))))))))))
theorem all_mk_ok (T : Tx K mg A) : FnD P w K mg base 10 T.a_law T.fd_law ["_law_script"] spLaw := by
  have G_is_integer : FnD P w K mg base 1 T.a_is_integer T.fd_is_integer [Str.ofString "thing"] (sp_is_integer A) := okD T.F_is_integer sc_is_integer (len_is_integer A) _ (fun cdv An outer s H E hr => w_is_integer T  cdv An outer s H E hr) (rd_is_integer A)
  have G_is_within : FnD P w K mg base 2 T.a_is_within T.fd_is_within [Str.ofString "thing", Str.ofString "least", Str.ofString "most"] (sp_is_within A) := okD T.F_is_within sc_is_within (len_is_within A) _ (fun cdv An outer s H E hr => w_is_within T G_is_integer cdv An outer s H E hr) (rd_is_within A)
  have G_is_below : FnD P w K mg base 3 T.a_is_below T.fd_is_below [Str.ofString "thing", Str.ofString "many"] (sp_is_below A) := okD T.F_is_below sc_is_below (len_is_below A) _ (fun cdv An outer s H E hr => w_is_below T G_is_within cdv An outer s H E hr) (rd_is_below A)
  have G_is_input : FnD P w K mg base 4 T.a_is_input T.fd_is_input [Str.ofString "thing"] (sp_is_input A) := okD T.F_is_input sc_is_input (len_is_input A) _ (fun cdv An outer s H E hr => w_is_input T G_is_below cdv An outer s H E hr) (rd_is_input A)
  have G_are_inputs : FnD P w K mg base 5 T.a_are_inputs T.fd_are_inputs [Str.ofString "thing"] (sp_are_inputs A) := okD T.F_are_inputs sc_are_inputs (len_are_inputs A) _ (fun cdv An outer s H E hr => w_are_inputs T G_is_input cdv An outer s H E hr) (rd_are_inputs A)
  have G_check_inputs : FnD P w K mg base 6 T.a_check_inputs T.fd_check_inputs [Str.ofString "thing"] (sp_check_inputs A) := okD T.F_check_inputs sc_check_inputs (len_check_inputs A) _ (fun cdv An outer s H E hr => w_check_inputs T G_are_inputs cdv An outer s H E hr) (rd_check_inputs A)
  have G_figures_of : FnD P w K mg base 1 T.a_figures_of T.fd_figures_of [Str.ofString "number"] (sp_figures_of A) := okD T.F_figures_of sc_figures_of (len_figures_of A) _ (fun cdv An outer s H E hr => w_figures_of T  cdv An outer s H E hr) (rd_figures_of A)
  have G_runs_of : FnD P w K mg base 1 T.a_runs_of T.fd_runs_of [Str.ofString "inputs"] (sp_runs_of A) := okD T.F_runs_of sc_runs_of (len_runs_of A) _ (fun cdv An outer s H E hr => w_runs_of T  cdv An outer s H E hr) (rd_runs_of A)
  have G_run_row : FnD P w K mg base 2 T.a_run_row T.fd_run_row [Str.ofString "inputs"] (sp_run_row A) := okD T.F_run_row sc_run_row (len_run_row A) _ (fun cdv An outer s H E hr => w_run_row T G_figures_of G_runs_of cdv An outer s H E hr) (rd_run_row A)
  have G_input_row : FnD P w K mg base 7 T.a_input_row T.fd_input_row [Str.ofString "inputs"] (sp_input_row A) := okD T.F_input_row sc_input_row (len_input_row A) _ (fun cdv An outer s H E hr => w_input_row T G_check_inputs G_run_row cdv An outer s H E hr) (rd_input_row A)
  have G__law_hand : FnD P w K mg base 1 T.a__law_hand T.fd__law_hand [Str.ofString "_law_script"] (sp__law_hand A) := okD T.F__law_hand sc__law_hand (len__law_hand A) _ (fun cdv An outer s H E hr => w__law_hand T  cdv An outer s H E hr) (rd__law_hand A)
  have G__law_draw : FnD P w K mg base 1 T.a__law_draw T.fd__law_draw [Str.ofString "_law_hand_here", Str.ofString "_law_many"] (sp__law_draw A) := okD T.F__law_draw sc__law_draw (len__law_draw A) _ (fun cdv An outer s H E hr => w__law_draw T  cdv An outer s H E hr) (rd__law_draw A)
  have G__law_is : ∀ n, FnD P w K mg base (0 + n) T.a__law_is T.fd__law_is [Str.ofString "_law_told", Str.ofString "_law_due"] (sp__law_is A n) := by
    intro n
    induction n with
    | zero => exact fn_never fun _ _ _ _ h => h
    | succ n ih => first | exact okD T.F__law_is sc__law_is (len__law_is A (n + 1)) _ (fun cdv An outer s H E hr => w__law_is T  (0 + n) (Nat.le_add_right _ _) (sp__law_is A n) ih cdv An outer s H E hr) (rd__law_is A n)
  have G__law_byte : FnD P w K mg base 2 T.a__law_byte T.fd__law_byte [Str.ofString "_law_hand_here"] (sp__law_byte A) := okD T.F__law_byte sc__law_byte (len__law_byte A) _ (fun cdv An outer s H E hr => w__law_byte T G__law_draw cdv An outer s H E hr) (rd__law_byte A)
  have G__law_bytes : FnD P w K mg base 3 T.a__law_bytes T.fd__law_bytes [Str.ofString "_law_hand_here", Str.ofString "_law_most"] (sp__law_bytes A) := okD T.F__law_bytes sc__law_bytes (len__law_bytes A) _ (fun cdv An outer s H E hr => w__law_bytes T G__law_draw G__law_byte cdv An outer s H E hr) (rd__law_bytes A)
  have G__law_spoilt : FnD P w K mg base 4 T.a__law_spoilt T.fd__law_spoilt [Str.ofString "_law_hand_here", Str.ofString "_law_row"] (sp__law_spoilt A) := okD T.F__law_spoilt sc__law_spoilt (len__law_spoilt A) _ (fun cdv An outer s H E hr => w__law_spoilt T G__law_draw G__law_byte G__law_bytes cdv An outer s H E hr) (rd__law_spoilt A)
  have G__law_runs : FnD P w K mg base 3 T.a__law_runs T.fd__law_runs [Str.ofString "_law_hand_here"] (sp__law_runs A) := okD T.F__law_runs sc__law_runs (len__law_runs A) _ (fun cdv An outer s H E hr => w__law_runs T G__law_draw G__law_byte cdv An outer s H E hr) (rd__law_runs A)
  have G__law_ticks : FnD P w K mg base 1 T.a__law_ticks T.fd__law_ticks [Str.ofString "_law_runs_here"] (sp__law_ticks A) := okD T.F__law_ticks sc__law_ticks (len__law_ticks A) _ (fun cdv An outer s H E hr => w__law_ticks T  cdv An outer s H E hr) (rd__law_ticks A)
  have G__law_whole : FnD P w K mg base 1 T.a__law_whole T.fd__law_whole [Str.ofString "_law_number"] (sp__law_whole A) := okF T.F__law_whole sc__law_whole (len__law_whole A) _ (fun cdv An outer s H E hr => w__law_whole T  cdv An outer s H E hr) (rd__law_whole A)
  have G__law_run_bytes : FnD P w K mg base 2 T.a__law_run_bytes T.fd__law_run_bytes [Str.ofString "_law_runs_here"] (sp__law_run_bytes A) := okD T.F__law_run_bytes sc__law_run_bytes (len__law_run_bytes A) _ (fun cdv An outer s H E hr => w__law_run_bytes T G__law_whole cdv An outer s H E hr) (rd__law_run_bytes A)
  have G__law_input_bytes : FnD P w K mg base 3 T.a__law_input_bytes T.fd__law_input_bytes [Str.ofString "_law_inputs"] (sp__law_input_bytes A) := okD T.F__law_input_bytes sc__law_input_bytes (len__law_input_bytes A) _ (fun cdv An outer s H E hr => w__law_input_bytes T G__law_run_bytes cdv An outer s H E hr) (rd__law_input_bytes A)
  have G_is_row : FnD P w K mg base 4 T.a_is_row T.fd_is_row [Str.ofString "thing"] (sp_is_row A) := okD T.F_is_row sc_is_row (len_is_row A) _ (fun cdv An outer s H E hr => w_is_row T G_is_below cdv An outer s H E hr) (rd_is_row A)
  have G_check_row : FnD P w K mg base 5 T.a_check_row T.fd_check_row [Str.ofString "thing"] (sp_check_row A) := okD T.F_check_row sc_check_row (len_check_row A) _ (fun cdv An outer s H E hr => w_check_row T G_is_row cdv An outer s H E hr) (rd_check_row A)
  have G_check_place : FnD P w K mg base 6 T.a_check_place T.fd_check_place [Str.ofString "row", Str.ofString "at"] (sp_check_place A) := okD T.F_check_place sc_check_place (len_check_place A) _ (fun cdv An outer s H E hr => w_check_place T G_is_within G_check_row cdv An outer s H E hr) (rd_check_place A)
  have G_Reader_init : FnD P w K mg base 1 T.a_Reader_init T.fd_Reader_init [Str.ofString "self", Str.ofString "row", Str.ofString "at"] (sp_Reader_init A) := okD T.F_Reader_init sc_Reader_init (len_Reader_init A) _ (fun cdv An outer s H E hr => w_Reader_init T  cdv An outer s H E hr) (rd_Reader_init A)
  have G_number_at : FnD P w K mg base 1 T.a_number_at T.fd_number_at [Str.ofString "row", Str.ofString "at"] (sp_number_at A) := okD T.F_number_at sc_number_at (len_number_at A) _ (fun cdv An outer s H E hr => w_number_at T  cdv An outer s H E hr) (rd_number_at A)
  have G_taken : FnD P w K mg base 3 T.a_taken T.fd_taken [Str.ofString "row", Str.ofString "at"] (sp_taken A) := okD T.F_taken sc_taken (len_taken A) _ (fun cdv An outer s H E hr => w_taken T G_number_at cdv An outer s H E hr) (rd_taken A)
  have G_Reader_next_number : FnD P w K mg base 4 T.a_Reader_next_number T.fd_Reader_next_number [Str.ofString "self"] (sp_Reader_next_number A) := okD T.F_Reader_next_number sc_Reader_next_number (len_Reader_next_number A) _ (fun cdv An outer s H E hr => w_Reader_next_number T G_taken cdv An outer s H E hr) (rd_Reader_next_number A)
  have G_Reader_next_byte : FnD P w K mg base 3 T.a_Reader_next_byte T.fd_Reader_next_byte [Str.ofString "self"] (sp_Reader_next_byte A) := okD T.F_Reader_next_byte sc_Reader_next_byte (len_Reader_next_byte A) _ (fun cdv An outer s H E hr => w_Reader_next_byte T  cdv An outer s H E hr) (rd_Reader_next_byte A)
  have G_taken_inputs : FnD P w K mg base 5 T.a_taken_inputs T.fd_taken_inputs [Str.ofString "reader"] (sp_taken_inputs A) := okF T.F_taken_inputs sc_taken_inputs (len_taken_inputs A) _ (fun cdv An outer s H E hr => w_taken_inputs T G_Reader_next_number G_Reader_next_byte cdv An outer s H E hr) (rd_taken_inputs A)
  have G_read_inputs : FnD P w K mg base 7 T.a_read_inputs T.fd_read_inputs [Str.ofString "row", Str.ofString "at"] (sp_read_inputs A) := okF T.F_read_inputs sc_read_inputs (len_read_inputs A) _ (fun cdv An outer s H E hr => w_read_inputs T G_check_place G_Reader_init G_taken_inputs cdv An outer s H E hr) (rd_read_inputs A)
  have G__law_read_told : FnD P w K mg base 8 T.a__law_read_told T.fd__law_read_told [Str.ofString "_law_row", Str.ofString "_law_at"] (sp__law_read_told A) := okF T.F__law_read_told sc__law_read_told (len__law_read_told A) _ (fun cdv An outer s H E hr => w__law_read_told T G_read_inputs cdv An outer s H E hr) (rd__law_read_told A)
  have G__law_read : FnD P w K mg base 1 T.a__law_read T.fd__law_read [Str.ofString "_law_row", Str.ofString "_law_at"] (sp__law_read A) := okD T.F__law_read sc__law_read (len__law_read A) _ (fun cdv An outer s H E hr => w__law_read T  cdv An outer s H E hr) (rd__law_read A)
  have G__law_parsed : FnD P w K mg base 2 T.a__law_parsed T.fd__law_parsed [Str.ofString "_law_row", Str.ofString "_law_at"] (sp__law_parsed A) := okF T.F__law_parsed sc__law_parsed (len__law_parsed A) _ (fun cdv An outer s H E hr => w__law_parsed T G__law_read cdv An outer s H E hr) (rd__law_parsed A)
  have G__law_is_told : FnD P w K mg base 9 T.a__law_is_told T.fd__law_is_told [Str.ofString "_law_row", Str.ofString "_law_at"] (sp__law_is_told A) := okD T.F__law_is_told sc__law_is_told (len__law_is_told A) _ (fun cdv An outer s H E hr => w__law_is_told T G_input_row (G__law_is 4) G__law_parsed G__law_read_told cdv An outer s H E hr) (rd__law_is_told A)
  have G__law_wrong_runs : FnD P w K mg base 3 T.a__law_wrong_runs T.fd__law_wrong_runs [Str.ofString "_law_hand_here", Str.ofString "_law_runs_here"] (sp__law_wrong_runs A) := okD T.F__law_wrong_runs sc__law_wrong_runs (len__law_wrong_runs A) _ (fun cdv An outer s H E hr => w__law_wrong_runs T G__law_draw G__law_byte cdv An outer s H E hr) (rd__law_wrong_runs A)
  have G_check_input : FnD P w K mg base 5 T.a_check_input T.fd_check_input [Str.ofString "thing"] (sp_check_input A) := okD T.F_check_input sc_check_input (len_check_input A) _ (fun cdv An outer s H E hr => w_check_input T G_is_input cdv An outer s H E hr) (rd_check_input A)
  have G_guessed : FnD P w K mg base 1 T.a_guessed T.fd_guessed [Str.ofString "last", Str.ofString "ago", Str.ofString "hold"] (sp_guessed A) := okD T.F_guessed sc_guessed (len_guessed A) _ (fun cdv An outer s H E hr => w_guessed T  cdv An outer s H E hr) (rd_guessed A)
  have G_guess : FnD P w K mg base 6 T.a_guess T.fd_guess [Str.ofString "last", Str.ofString "ago", Str.ofString "hold"] (sp_guess A) := okD T.F_guess sc_guess (len_guess A) _ (fun cdv An outer s H E hr => w_guess T G_is_within G_check_input G_guessed cdv An outer s H E hr) (rd_guess A)
  have G__law_is_guess : FnD P w K mg base 7 T.a__law_is_guess T.fd__law_is_guess [Str.ofString "_law_hand_here"] (sp__law_is_guess A) := okD T.F__law_is_guess sc__law_is_guess (len__law_is_guess A) _ (fun cdv An outer s H E hr => w__law_is_guess T G_guess G__law_draw (G__law_is 4) cdv An outer s H E hr) (rd__law_is_guess A)
  have G_law : FnD P w K mg base 10 T.a_law T.fd_law [Str.ofString "_law_script"] spLaw := okD T.F_law sc_law (len_law A) _ (fun cdv An outer s H E hr => w_law T G_input_row G__law_hand G__law_draw (G__law_is 4) G__law_bytes G__law_spoilt G__law_runs G__law_ticks G__law_run_bytes G__law_input_bytes G__law_read_told G__law_is_told G__law_wrong_runs G__law_is_guess cdv An outer s H E hr) (rd_law A)
  exact G_law
end
def tx_mk {K : PySem.W.Frag} {h : Heap} {mg : Str → Option Value} (X : K.In h) (G : h.Ns mainGlobals mg)
    {fa_is_integer : Addr} {oc_is_integer kV_is_integer doc_is_integer pm_is_integer cd_is_integer ct_is_integer : Value} {od_is_integer an_is_integer : Option Addr} {sl_is_integer : Array (Option Value)}
    {fa_is_within : Addr} {oc_is_within kV_is_within doc_is_within pm_is_within cd_is_within ct_is_within : Value} {od_is_within an_is_within : Option Addr} {sl_is_within : Array (Option Value)}
    {fa_is_below : Addr} {oc_is_below kV_is_below doc_is_below pm_is_below cd_is_below ct_is_below : Value} {od_is_below an_is_below : Option Addr} {sl_is_below : Array (Option Value)}
    {fa_is_row : Addr} {oc_is_row kV_is_row doc_is_row pm_is_row cd_is_row ct_is_row : Value} {od_is_row an_is_row : Option Addr} {sl_is_row : Array (Option Value)}
    {fa_check_row : Addr} {oc_check_row kV_check_row doc_check_row pm_check_row cd_check_row ct_check_row : Value} {od_check_row an_check_row : Option Addr} {sl_check_row : Array (Option Value)}
    {fa_figures_of : Addr} {oc_figures_of kV_figures_of doc_figures_of pm_figures_of cd_figures_of ct_figures_of : Value} {od_figures_of an_figures_of : Option Addr} {sl_figures_of : Array (Option Value)}
    {fa_number_at : Addr} {oc_number_at kV_number_at doc_number_at pm_number_at cd_number_at ct_number_at : Value} {od_number_at an_number_at : Option Addr} {sl_number_at : Array (Option Value)}
    {fa_taken : Addr} {oc_taken kV_taken doc_taken pm_taken cd_taken ct_taken : Value} {od_taken an_taken : Option Addr} {sl_taken : Array (Option Value)}
    {fa_check_place : Addr} {oc_check_place kV_check_place doc_check_place pm_check_place cd_check_place ct_check_place : Value} {od_check_place an_check_place : Option Addr} {sl_check_place : Array (Option Value)}
    {fa_Reader_init : Addr} {oc_Reader_init kV_Reader_init doc_Reader_init pm_Reader_init cd_Reader_init ct_Reader_init : Value} {od_Reader_init an_Reader_init : Option Addr} {sl_Reader_init : Array (Option Value)}
    {fa_Reader_next_number : Addr} {oc_Reader_next_number kV_Reader_next_number doc_Reader_next_number pm_Reader_next_number cd_Reader_next_number ct_Reader_next_number : Value} {od_Reader_next_number an_Reader_next_number : Option Addr} {sl_Reader_next_number : Array (Option Value)}
    {fa_Reader_next_byte : Addr} {oc_Reader_next_byte kV_Reader_next_byte doc_Reader_next_byte pm_Reader_next_byte cd_Reader_next_byte ct_Reader_next_byte : Value} {od_Reader_next_byte an_Reader_next_byte : Option Addr} {sl_Reader_next_byte : Array (Option Value)}
    {fa_is_input : Addr} {oc_is_input kV_is_input doc_is_input pm_is_input cd_is_input ct_is_input : Value} {od_is_input an_is_input : Option Addr} {sl_is_input : Array (Option Value)}
    {fa_are_inputs : Addr} {oc_are_inputs kV_are_inputs doc_are_inputs pm_are_inputs cd_are_inputs ct_are_inputs : Value} {od_are_inputs an_are_inputs : Option Addr} {sl_are_inputs : Array (Option Value)}
    {fa_check_inputs : Addr} {oc_check_inputs kV_check_inputs doc_check_inputs pm_check_inputs cd_check_inputs ct_check_inputs : Value} {od_check_inputs an_check_inputs : Option Addr} {sl_check_inputs : Array (Option Value)}
    {fa_check_input : Addr} {oc_check_input kV_check_input doc_check_input pm_check_input cd_check_input ct_check_input : Value} {od_check_input an_check_input : Option Addr} {sl_check_input : Array (Option Value)}
    {fa_runs_of : Addr} {oc_runs_of kV_runs_of doc_runs_of pm_runs_of cd_runs_of ct_runs_of : Value} {od_runs_of an_runs_of : Option Addr} {sl_runs_of : Array (Option Value)}
    {fa_run_row : Addr} {oc_run_row kV_run_row doc_run_row pm_run_row cd_run_row ct_run_row : Value} {od_run_row an_run_row : Option Addr} {sl_run_row : Array (Option Value)}
    {fa_input_row : Addr} {oc_input_row kV_input_row doc_input_row pm_input_row cd_input_row ct_input_row : Value} {od_input_row an_input_row : Option Addr} {sl_input_row : Array (Option Value)}
    {fa_taken_inputs : Addr} {oc_taken_inputs kV_taken_inputs doc_taken_inputs pm_taken_inputs cd_taken_inputs ct_taken_inputs : Value} {od_taken_inputs an_taken_inputs : Option Addr} {sl_taken_inputs : Array (Option Value)}
    {fa_read_inputs : Addr} {oc_read_inputs kV_read_inputs doc_read_inputs pm_read_inputs cd_read_inputs ct_read_inputs : Value} {od_read_inputs an_read_inputs : Option Addr} {sl_read_inputs : Array (Option Value)}
    {fa_guessed : Addr} {oc_guessed kV_guessed doc_guessed pm_guessed cd_guessed ct_guessed : Value} {od_guessed an_guessed : Option Addr} {sl_guessed : Array (Option Value)}
    {fa_guess : Addr} {oc_guess kV_guess doc_guess pm_guess cd_guess ct_guess : Value} {od_guess an_guess : Option Addr} {sl_guess : Array (Option Value)}
    {fa__law_hand : Addr} {oc__law_hand kV__law_hand doc__law_hand pm__law_hand cd__law_hand ct__law_hand : Value} {od__law_hand an__law_hand : Option Addr} {sl__law_hand : Array (Option Value)}
    {fa__law_draw : Addr} {oc__law_draw kV__law_draw doc__law_draw pm__law_draw cd__law_draw ct__law_draw : Value} {od__law_draw an__law_draw : Option Addr} {sl__law_draw : Array (Option Value)}
    {fa__law_is : Addr} {oc__law_is kV__law_is doc__law_is pm__law_is cd__law_is ct__law_is : Value} {od__law_is an__law_is : Option Addr} {sl__law_is : Array (Option Value)}
    {fa__law_whole : Addr} {oc__law_whole kV__law_whole doc__law_whole pm__law_whole cd__law_whole ct__law_whole : Value} {od__law_whole an__law_whole : Option Addr} {sl__law_whole : Array (Option Value)}
    {fa__law_read : Addr} {oc__law_read kV__law_read doc__law_read pm__law_read cd__law_read ct__law_read : Value} {od__law_read an__law_read : Option Addr} {sl__law_read : Array (Option Value)}
    {fa__law_byte : Addr} {oc__law_byte kV__law_byte doc__law_byte pm__law_byte cd__law_byte ct__law_byte : Value} {od__law_byte an__law_byte : Option Addr} {sl__law_byte : Array (Option Value)}
    {fa__law_bytes : Addr} {oc__law_bytes kV__law_bytes doc__law_bytes pm__law_bytes cd__law_bytes ct__law_bytes : Value} {od__law_bytes an__law_bytes : Option Addr} {sl__law_bytes : Array (Option Value)}
    {fa__law_spoilt : Addr} {oc__law_spoilt kV__law_spoilt doc__law_spoilt pm__law_spoilt cd__law_spoilt ct__law_spoilt : Value} {od__law_spoilt an__law_spoilt : Option Addr} {sl__law_spoilt : Array (Option Value)}
    {fa__law_runs : Addr} {oc__law_runs kV__law_runs doc__law_runs pm__law_runs cd__law_runs ct__law_runs : Value} {od__law_runs an__law_runs : Option Addr} {sl__law_runs : Array (Option Value)}
    {fa__law_ticks : Addr} {oc__law_ticks kV__law_ticks doc__law_ticks pm__law_ticks cd__law_ticks ct__law_ticks : Value} {od__law_ticks an__law_ticks : Option Addr} {sl__law_ticks : Array (Option Value)}
    {fa__law_run_bytes : Addr} {oc__law_run_bytes kV__law_run_bytes doc__law_run_bytes pm__law_run_bytes cd__law_run_bytes ct__law_run_bytes : Value} {od__law_run_bytes an__law_run_bytes : Option Addr} {sl__law_run_bytes : Array (Option Value)}
    {fa__law_input_bytes : Addr} {oc__law_input_bytes kV__law_input_bytes doc__law_input_bytes pm__law_input_bytes cd__law_input_bytes ct__law_input_bytes : Value} {od__law_input_bytes an__law_input_bytes : Option Addr} {sl__law_input_bytes : Array (Option Value)}
    {fa__law_parsed : Addr} {oc__law_parsed kV__law_parsed doc__law_parsed pm__law_parsed cd__law_parsed ct__law_parsed : Value} {od__law_parsed an__law_parsed : Option Addr} {sl__law_parsed : Array (Option Value)}
    {fa__law_read_told : Addr} {oc__law_read_told kV__law_read_told doc__law_read_told pm__law_read_told cd__law_read_told ct__law_read_told : Value} {od__law_read_told an__law_read_told : Option Addr} {sl__law_read_told : Array (Option Value)}
    {fa__law_is_told : Addr} {oc__law_is_told kV__law_is_told doc__law_is_told pm__law_is_told cd__law_is_told ct__law_is_told : Value} {od__law_is_told an__law_is_told : Option Addr} {sl__law_is_told : Array (Option Value)}
    {fa__law_wrong_runs : Addr} {oc__law_wrong_runs kV__law_wrong_runs doc__law_wrong_runs pm__law_wrong_runs cd__law_wrong_runs ct__law_wrong_runs : Value} {od__law_wrong_runs an__law_wrong_runs : Option Addr} {sl__law_wrong_runs : Array (Option Value)}
    {fa__law_is_guess : Addr} {oc__law_is_guess kV__law_is_guess doc__law_is_guess pm__law_is_guess cd__law_is_guess ct__law_is_guess : Value} {od__law_is_guess an__law_is_guess : Option Addr} {sl__law_is_guess : Array (Option Value)}
    {fa_law : Addr} {oc_law kV_law doc_law pm_law cd_law ct_law : Value} {od_law an_law : Option Addr} {sl_law : Array (Option Value)}
    {tk1 : Tok}
    {tk2 : Tok}
    {tk3 : Tok}
    {tk4 : Tok}
    {tk5 : Tok}
    {tk6 : Tok}
    {tk7 : Tok}
    {tk8 : Tok}
    {A_WorldError : Addr}
    {A_NoNumber : Addr}
    {A_NoInputs : Addr}
    {A_NoRow : Addr}
    {A_NoPlace : Addr}
    {A_BadRow : Addr}
    {nm_BadRow q_BadRow : Str} {N_BadRow : Addr} {bs_BadRow : List Value} {sn_BadRow : List Str} {sub_BadRow : List Value} {ab_BadRow : Bool} {col_BadRow : Option Bool} {dd_BadRow : Option Addr} {m0_BadRow m1_BadRow m2_BadRow m3_BadRow m5_BadRow : Option Value} {fi_BadRow : Addr}
    {bw0_BadRow : Addr}
    {oc_BadRow_init kV_BadRow_init doc_BadRow_init pm_BadRow_init cd_BadRow_init ct_BadRow_init : Value} {od_BadRow_init an_BadRow_init : Option Addr} {sl_BadRow_init : Array (Option Value)}
    {A_Reader : Addr}
    (a_is_integer : PySem.W.nsIn K mainGlobals "is_integer" = some (some (.ref fa_is_integer)))
    (l_is_integer : K.lookup fa_is_integer = some ⟨oc_is_integer, od_is_integer, .func (PySem.W.fnOf "is_integer" "is_integer" (defArgs s_is_integer) (defBody s_is_integer) (defScope s_is_integer) .none kV_is_integer doc_is_integer pm_is_integer an_is_integer cd_is_integer ct_is_integer), sl_is_integer⟩)
    (c_is_integer : PySem.W.codeIn K cd_is_integer "is_integer" = true)
    (k_is_integer : PySem.W.keepIn K (.ref fa_is_integer) = true)
    (a_is_within : PySem.W.nsIn K mainGlobals "is_within" = some (some (.ref fa_is_within)))
    (l_is_within : K.lookup fa_is_within = some ⟨oc_is_within, od_is_within, .func (PySem.W.fnOf "is_within" "is_within" (defArgs s_is_within) (defBody s_is_within) (defScope s_is_within) .none kV_is_within doc_is_within pm_is_within an_is_within cd_is_within ct_is_within), sl_is_within⟩)
    (c_is_within : PySem.W.codeIn K cd_is_within "is_within" = true)
    (k_is_within : PySem.W.keepIn K (.ref fa_is_within) = true)
    (a_is_below : PySem.W.nsIn K mainGlobals "is_below" = some (some (.ref fa_is_below)))
    (l_is_below : K.lookup fa_is_below = some ⟨oc_is_below, od_is_below, .func (PySem.W.fnOf "is_below" "is_below" (defArgs s_is_below) (defBody s_is_below) (defScope s_is_below) .none kV_is_below doc_is_below pm_is_below an_is_below cd_is_below ct_is_below), sl_is_below⟩)
    (c_is_below : PySem.W.codeIn K cd_is_below "is_below" = true)
    (k_is_below : PySem.W.keepIn K (.ref fa_is_below) = true)
    (a_is_row : PySem.W.nsIn K mainGlobals "is_row" = some (some (.ref fa_is_row)))
    (l_is_row : K.lookup fa_is_row = some ⟨oc_is_row, od_is_row, .func (PySem.W.fnOf "is_row" "is_row" (defArgs s_is_row) (defBody s_is_row) (defScope s_is_row) .none kV_is_row doc_is_row pm_is_row an_is_row cd_is_row ct_is_row), sl_is_row⟩)
    (c_is_row : PySem.W.codeIn K cd_is_row "is_row" = true)
    (k_is_row : PySem.W.keepIn K (.ref fa_is_row) = true)
    (a_check_row : PySem.W.nsIn K mainGlobals "check_row" = some (some (.ref fa_check_row)))
    (l_check_row : K.lookup fa_check_row = some ⟨oc_check_row, od_check_row, .func (PySem.W.fnOf "check_row" "check_row" (defArgs s_check_row) (defBody s_check_row) (defScope s_check_row) .none kV_check_row doc_check_row pm_check_row an_check_row cd_check_row ct_check_row), sl_check_row⟩)
    (c_check_row : PySem.W.codeIn K cd_check_row "check_row" = true)
    (k_check_row : PySem.W.keepIn K (.ref fa_check_row) = true)
    (a_figures_of : PySem.W.nsIn K mainGlobals "figures_of" = some (some (.ref fa_figures_of)))
    (l_figures_of : K.lookup fa_figures_of = some ⟨oc_figures_of, od_figures_of, .func (PySem.W.fnOf "figures_of" "figures_of" (defArgs s_figures_of) (defBody s_figures_of) (defScope s_figures_of) .none kV_figures_of doc_figures_of pm_figures_of an_figures_of cd_figures_of ct_figures_of), sl_figures_of⟩)
    (c_figures_of : PySem.W.codeIn K cd_figures_of "figures_of" = true)
    (k_figures_of : PySem.W.keepIn K (.ref fa_figures_of) = true)
    (a_number_at : PySem.W.nsIn K mainGlobals "number_at" = some (some (.ref fa_number_at)))
    (l_number_at : K.lookup fa_number_at = some ⟨oc_number_at, od_number_at, .func (PySem.W.fnOf "number_at" "number_at" (defArgs s_number_at) (defBody s_number_at) (defScope s_number_at) .none kV_number_at doc_number_at pm_number_at an_number_at cd_number_at ct_number_at), sl_number_at⟩)
    (c_number_at : PySem.W.codeIn K cd_number_at "number_at" = true)
    (k_number_at : PySem.W.keepIn K (.ref fa_number_at) = true)
    (a_taken : PySem.W.nsIn K mainGlobals "taken" = some (some (.ref fa_taken)))
    (l_taken : K.lookup fa_taken = some ⟨oc_taken, od_taken, .func (PySem.W.fnOf "taken" "taken" (defArgs s_taken) (defBody s_taken) (defScope s_taken) .none kV_taken doc_taken pm_taken an_taken cd_taken ct_taken), sl_taken⟩)
    (c_taken : PySem.W.codeIn K cd_taken "taken" = true)
    (k_taken : PySem.W.keepIn K (.ref fa_taken) = true)
    (a_check_place : PySem.W.nsIn K mainGlobals "check_place" = some (some (.ref fa_check_place)))
    (l_check_place : K.lookup fa_check_place = some ⟨oc_check_place, od_check_place, .func (PySem.W.fnOf "check_place" "check_place" (defArgs s_check_place) (defBody s_check_place) (defScope s_check_place) .none kV_check_place doc_check_place pm_check_place an_check_place cd_check_place ct_check_place), sl_check_place⟩)
    (c_check_place : PySem.W.codeIn K cd_check_place "check_place" = true)
    (k_check_place : PySem.W.keepIn K (.ref fa_check_place) = true)
    (a_Reader_init : PySem.W.findIn K (.ref A_Reader) "__init__" = some (some (.ref fa_Reader_init)))
    (l_Reader_init : K.lookup fa_Reader_init = some ⟨oc_Reader_init, od_Reader_init, .func (PySem.W.fnOf "__init__" "Reader.__init__" (defArgs s_Reader_init) (defBody s_Reader_init) (defScope s_Reader_init) .none kV_Reader_init doc_Reader_init pm_Reader_init an_Reader_init cd_Reader_init ct_Reader_init), sl_Reader_init⟩)
    (c_Reader_init : PySem.W.codeIn K cd_Reader_init "Reader.__init__" = true)
    (k_Reader_init : PySem.W.keepIn K (.ref fa_Reader_init) = true)
    (a_Reader_next_number : PySem.W.findIn K (.ref A_Reader) "next_number" = some (some (.ref fa_Reader_next_number)))
    (l_Reader_next_number : K.lookup fa_Reader_next_number = some ⟨oc_Reader_next_number, od_Reader_next_number, .func (PySem.W.fnOf "next_number" "Reader.next_number" (defArgs s_Reader_next_number) (defBody s_Reader_next_number) (defScope s_Reader_next_number) .none kV_Reader_next_number doc_Reader_next_number pm_Reader_next_number an_Reader_next_number cd_Reader_next_number ct_Reader_next_number), sl_Reader_next_number⟩)
    (c_Reader_next_number : PySem.W.codeIn K cd_Reader_next_number "Reader.next_number" = true)
    (k_Reader_next_number : PySem.W.keepIn K (.ref fa_Reader_next_number) = true)
    (a_Reader_next_byte : PySem.W.findIn K (.ref A_Reader) "next_byte" = some (some (.ref fa_Reader_next_byte)))
    (l_Reader_next_byte : K.lookup fa_Reader_next_byte = some ⟨oc_Reader_next_byte, od_Reader_next_byte, .func (PySem.W.fnOf "next_byte" "Reader.next_byte" (defArgs s_Reader_next_byte) (defBody s_Reader_next_byte) (defScope s_Reader_next_byte) .none kV_Reader_next_byte doc_Reader_next_byte pm_Reader_next_byte an_Reader_next_byte cd_Reader_next_byte ct_Reader_next_byte), sl_Reader_next_byte⟩)
    (c_Reader_next_byte : PySem.W.codeIn K cd_Reader_next_byte "Reader.next_byte" = true)
    (k_Reader_next_byte : PySem.W.keepIn K (.ref fa_Reader_next_byte) = true)
    (a_is_input : PySem.W.nsIn K mainGlobals "is_input" = some (some (.ref fa_is_input)))
    (l_is_input : K.lookup fa_is_input = some ⟨oc_is_input, od_is_input, .func (PySem.W.fnOf "is_input" "is_input" (defArgs s_is_input) (defBody s_is_input) (defScope s_is_input) .none kV_is_input doc_is_input pm_is_input an_is_input cd_is_input ct_is_input), sl_is_input⟩)
    (c_is_input : PySem.W.codeIn K cd_is_input "is_input" = true)
    (k_is_input : PySem.W.keepIn K (.ref fa_is_input) = true)
    (a_are_inputs : PySem.W.nsIn K mainGlobals "are_inputs" = some (some (.ref fa_are_inputs)))
    (l_are_inputs : K.lookup fa_are_inputs = some ⟨oc_are_inputs, od_are_inputs, .func (PySem.W.fnOf "are_inputs" "are_inputs" (defArgs s_are_inputs) (defBody s_are_inputs) (defScope s_are_inputs) .none kV_are_inputs doc_are_inputs pm_are_inputs an_are_inputs cd_are_inputs ct_are_inputs), sl_are_inputs⟩)
    (c_are_inputs : PySem.W.codeIn K cd_are_inputs "are_inputs" = true)
    (k_are_inputs : PySem.W.keepIn K (.ref fa_are_inputs) = true)
    (a_check_inputs : PySem.W.nsIn K mainGlobals "check_inputs" = some (some (.ref fa_check_inputs)))
    (l_check_inputs : K.lookup fa_check_inputs = some ⟨oc_check_inputs, od_check_inputs, .func (PySem.W.fnOf "check_inputs" "check_inputs" (defArgs s_check_inputs) (defBody s_check_inputs) (defScope s_check_inputs) .none kV_check_inputs doc_check_inputs pm_check_inputs an_check_inputs cd_check_inputs ct_check_inputs), sl_check_inputs⟩)
    (c_check_inputs : PySem.W.codeIn K cd_check_inputs "check_inputs" = true)
    (k_check_inputs : PySem.W.keepIn K (.ref fa_check_inputs) = true)
    (a_check_input : PySem.W.nsIn K mainGlobals "check_input" = some (some (.ref fa_check_input)))
    (l_check_input : K.lookup fa_check_input = some ⟨oc_check_input, od_check_input, .func (PySem.W.fnOf "check_input" "check_input" (defArgs s_check_input) (defBody s_check_input) (defScope s_check_input) .none kV_check_input doc_check_input pm_check_input an_check_input cd_check_input ct_check_input), sl_check_input⟩)
    (c_check_input : PySem.W.codeIn K cd_check_input "check_input" = true)
    (k_check_input : PySem.W.keepIn K (.ref fa_check_input) = true)
    (a_runs_of : PySem.W.nsIn K mainGlobals "runs_of" = some (some (.ref fa_runs_of)))
    (l_runs_of : K.lookup fa_runs_of = some ⟨oc_runs_of, od_runs_of, .func (PySem.W.fnOf "runs_of" "runs_of" (defArgs s_runs_of) (defBody s_runs_of) (defScope s_runs_of) .none kV_runs_of doc_runs_of pm_runs_of an_runs_of cd_runs_of ct_runs_of), sl_runs_of⟩)
    (c_runs_of : PySem.W.codeIn K cd_runs_of "runs_of" = true)
    (k_runs_of : PySem.W.keepIn K (.ref fa_runs_of) = true)
    (a_run_row : PySem.W.nsIn K mainGlobals "run_row" = some (some (.ref fa_run_row)))
    (l_run_row : K.lookup fa_run_row = some ⟨oc_run_row, od_run_row, .func (PySem.W.fnOf "run_row" "run_row" (defArgs s_run_row) (defBody s_run_row) (defScope s_run_row) .none kV_run_row doc_run_row pm_run_row an_run_row cd_run_row ct_run_row), sl_run_row⟩)
    (c_run_row : PySem.W.codeIn K cd_run_row "run_row" = true)
    (k_run_row : PySem.W.keepIn K (.ref fa_run_row) = true)
    (a_input_row : PySem.W.nsIn K mainGlobals "input_row" = some (some (.ref fa_input_row)))
    (l_input_row : K.lookup fa_input_row = some ⟨oc_input_row, od_input_row, .func (PySem.W.fnOf "input_row" "input_row" (defArgs s_input_row) (defBody s_input_row) (defScope s_input_row) .none kV_input_row doc_input_row pm_input_row an_input_row cd_input_row ct_input_row), sl_input_row⟩)
    (c_input_row : PySem.W.codeIn K cd_input_row "input_row" = true)
    (k_input_row : PySem.W.keepIn K (.ref fa_input_row) = true)
    (a_taken_inputs : PySem.W.nsIn K mainGlobals "taken_inputs" = some (some (.ref fa_taken_inputs)))
    (l_taken_inputs : K.lookup fa_taken_inputs = some ⟨oc_taken_inputs, od_taken_inputs, .func (PySem.W.fnOf "taken_inputs" "taken_inputs" (defArgs s_taken_inputs) (defBody s_taken_inputs) (defScope s_taken_inputs) .none kV_taken_inputs doc_taken_inputs pm_taken_inputs an_taken_inputs cd_taken_inputs ct_taken_inputs), sl_taken_inputs⟩)
    (c_taken_inputs : PySem.W.codeIn K cd_taken_inputs "taken_inputs" = true)
    (k_taken_inputs : PySem.W.keepIn K (.ref fa_taken_inputs) = true)
    (a_read_inputs : PySem.W.nsIn K mainGlobals "read_inputs" = some (some (.ref fa_read_inputs)))
    (l_read_inputs : K.lookup fa_read_inputs = some ⟨oc_read_inputs, od_read_inputs, .func (PySem.W.fnOf "read_inputs" "read_inputs" (defArgs s_read_inputs) (defBody s_read_inputs) (defScope s_read_inputs) .none kV_read_inputs doc_read_inputs pm_read_inputs an_read_inputs cd_read_inputs ct_read_inputs), sl_read_inputs⟩)
    (c_read_inputs : PySem.W.codeIn K cd_read_inputs "read_inputs" = true)
    (k_read_inputs : PySem.W.keepIn K (.ref fa_read_inputs) = true)
    (a_guessed : PySem.W.nsIn K mainGlobals "guessed" = some (some (.ref fa_guessed)))
    (l_guessed : K.lookup fa_guessed = some ⟨oc_guessed, od_guessed, .func (PySem.W.fnOf "guessed" "guessed" (defArgs s_guessed) (defBody s_guessed) (defScope s_guessed) .none kV_guessed doc_guessed pm_guessed an_guessed cd_guessed ct_guessed), sl_guessed⟩)
    (c_guessed : PySem.W.codeIn K cd_guessed "guessed" = true)
    (k_guessed : PySem.W.keepIn K (.ref fa_guessed) = true)
    (a_guess : PySem.W.nsIn K mainGlobals "guess" = some (some (.ref fa_guess)))
    (l_guess : K.lookup fa_guess = some ⟨oc_guess, od_guess, .func (PySem.W.fnOf "guess" "guess" (defArgs s_guess) (defBody s_guess) (defScope s_guess) .none kV_guess doc_guess pm_guess an_guess cd_guess ct_guess), sl_guess⟩)
    (c_guess : PySem.W.codeIn K cd_guess "guess" = true)
    (k_guess : PySem.W.keepIn K (.ref fa_guess) = true)
    (a__law_hand : PySem.W.nsIn K mainGlobals "_law_hand" = some (some (.ref fa__law_hand)))
    (l__law_hand : K.lookup fa__law_hand = some ⟨oc__law_hand, od__law_hand, .func (PySem.W.fnOf "_law_hand" "_law_hand" (defArgs s__law_hand) (defBody s__law_hand) (defScope s__law_hand) .none kV__law_hand doc__law_hand pm__law_hand an__law_hand cd__law_hand ct__law_hand), sl__law_hand⟩)
    (c__law_hand : PySem.W.codeIn K cd__law_hand "_law_hand" = true)
    (k__law_hand : PySem.W.keepIn K (.ref fa__law_hand) = true)
    (a__law_draw : PySem.W.nsIn K mainGlobals "_law_draw" = some (some (.ref fa__law_draw)))
    (l__law_draw : K.lookup fa__law_draw = some ⟨oc__law_draw, od__law_draw, .func (PySem.W.fnOf "_law_draw" "_law_draw" (defArgs s__law_draw) (defBody s__law_draw) (defScope s__law_draw) .none kV__law_draw doc__law_draw pm__law_draw an__law_draw cd__law_draw ct__law_draw), sl__law_draw⟩)
    (c__law_draw : PySem.W.codeIn K cd__law_draw "_law_draw" = true)
    (k__law_draw : PySem.W.keepIn K (.ref fa__law_draw) = true)
    (a__law_is : PySem.W.nsIn K mainGlobals "_law_is" = some (some (.ref fa__law_is)))
    (l__law_is : K.lookup fa__law_is = some ⟨oc__law_is, od__law_is, .func (PySem.W.fnOf "_law_is" "_law_is" (defArgs s__law_is) (defBody s__law_is) (defScope s__law_is) .none kV__law_is doc__law_is pm__law_is an__law_is cd__law_is ct__law_is), sl__law_is⟩)
    (c__law_is : PySem.W.codeIn K cd__law_is "_law_is" = true)
    (k__law_is : PySem.W.keepIn K (.ref fa__law_is) = true)
    (a__law_whole : PySem.W.nsIn K mainGlobals "_law_whole" = some (some (.ref fa__law_whole)))
    (l__law_whole : K.lookup fa__law_whole = some ⟨oc__law_whole, od__law_whole, .func (PySem.W.fnOf "_law_whole" "_law_whole" (defArgs s__law_whole) (defBody s__law_whole) (defScope s__law_whole) .none kV__law_whole doc__law_whole pm__law_whole an__law_whole cd__law_whole ct__law_whole), sl__law_whole⟩)
    (c__law_whole : PySem.W.codeIn K cd__law_whole "_law_whole" = true)
    (k__law_whole : PySem.W.keepIn K (.ref fa__law_whole) = true)
    (a__law_read : PySem.W.nsIn K mainGlobals "_law_read" = some (some (.ref fa__law_read)))
    (l__law_read : K.lookup fa__law_read = some ⟨oc__law_read, od__law_read, .func (PySem.W.fnOf "_law_read" "_law_read" (defArgs s__law_read) (defBody s__law_read) (defScope s__law_read) .none kV__law_read doc__law_read pm__law_read an__law_read cd__law_read ct__law_read), sl__law_read⟩)
    (c__law_read : PySem.W.codeIn K cd__law_read "_law_read" = true)
    (k__law_read : PySem.W.keepIn K (.ref fa__law_read) = true)
    (a__law_byte : PySem.W.nsIn K mainGlobals "_law_byte" = some (some (.ref fa__law_byte)))
    (l__law_byte : K.lookup fa__law_byte = some ⟨oc__law_byte, od__law_byte, .func (PySem.W.fnOf "_law_byte" "_law_byte" (defArgs s__law_byte) (defBody s__law_byte) (defScope s__law_byte) .none kV__law_byte doc__law_byte pm__law_byte an__law_byte cd__law_byte ct__law_byte), sl__law_byte⟩)
    (c__law_byte : PySem.W.codeIn K cd__law_byte "_law_byte" = true)
    (k__law_byte : PySem.W.keepIn K (.ref fa__law_byte) = true)
    (a__law_bytes : PySem.W.nsIn K mainGlobals "_law_bytes" = some (some (.ref fa__law_bytes)))
    (l__law_bytes : K.lookup fa__law_bytes = some ⟨oc__law_bytes, od__law_bytes, .func (PySem.W.fnOf "_law_bytes" "_law_bytes" (defArgs s__law_bytes) (defBody s__law_bytes) (defScope s__law_bytes) .none kV__law_bytes doc__law_bytes pm__law_bytes an__law_bytes cd__law_bytes ct__law_bytes), sl__law_bytes⟩)
    (c__law_bytes : PySem.W.codeIn K cd__law_bytes "_law_bytes" = true)
    (k__law_bytes : PySem.W.keepIn K (.ref fa__law_bytes) = true)
    (a__law_spoilt : PySem.W.nsIn K mainGlobals "_law_spoilt" = some (some (.ref fa__law_spoilt)))
    (l__law_spoilt : K.lookup fa__law_spoilt = some ⟨oc__law_spoilt, od__law_spoilt, .func (PySem.W.fnOf "_law_spoilt" "_law_spoilt" (defArgs s__law_spoilt) (defBody s__law_spoilt) (defScope s__law_spoilt) .none kV__law_spoilt doc__law_spoilt pm__law_spoilt an__law_spoilt cd__law_spoilt ct__law_spoilt), sl__law_spoilt⟩)
    (c__law_spoilt : PySem.W.codeIn K cd__law_spoilt "_law_spoilt" = true)
    (k__law_spoilt : PySem.W.keepIn K (.ref fa__law_spoilt) = true)
    (a__law_runs : PySem.W.nsIn K mainGlobals "_law_runs" = some (some (.ref fa__law_runs)))
    (l__law_runs : K.lookup fa__law_runs = some ⟨oc__law_runs, od__law_runs, .func (PySem.W.fnOf "_law_runs" "_law_runs" (defArgs s__law_runs) (defBody s__law_runs) (defScope s__law_runs) .none kV__law_runs doc__law_runs pm__law_runs an__law_runs cd__law_runs ct__law_runs), sl__law_runs⟩)
    (c__law_runs : PySem.W.codeIn K cd__law_runs "_law_runs" = true)
    (k__law_runs : PySem.W.keepIn K (.ref fa__law_runs) = true)
    (a__law_ticks : PySem.W.nsIn K mainGlobals "_law_ticks" = some (some (.ref fa__law_ticks)))
    (l__law_ticks : K.lookup fa__law_ticks = some ⟨oc__law_ticks, od__law_ticks, .func (PySem.W.fnOf "_law_ticks" "_law_ticks" (defArgs s__law_ticks) (defBody s__law_ticks) (defScope s__law_ticks) .none kV__law_ticks doc__law_ticks pm__law_ticks an__law_ticks cd__law_ticks ct__law_ticks), sl__law_ticks⟩)
    (c__law_ticks : PySem.W.codeIn K cd__law_ticks "_law_ticks" = true)
    (k__law_ticks : PySem.W.keepIn K (.ref fa__law_ticks) = true)
    (a__law_run_bytes : PySem.W.nsIn K mainGlobals "_law_run_bytes" = some (some (.ref fa__law_run_bytes)))
    (l__law_run_bytes : K.lookup fa__law_run_bytes = some ⟨oc__law_run_bytes, od__law_run_bytes, .func (PySem.W.fnOf "_law_run_bytes" "_law_run_bytes" (defArgs s__law_run_bytes) (defBody s__law_run_bytes) (defScope s__law_run_bytes) .none kV__law_run_bytes doc__law_run_bytes pm__law_run_bytes an__law_run_bytes cd__law_run_bytes ct__law_run_bytes), sl__law_run_bytes⟩)
    (c__law_run_bytes : PySem.W.codeIn K cd__law_run_bytes "_law_run_bytes" = true)
    (k__law_run_bytes : PySem.W.keepIn K (.ref fa__law_run_bytes) = true)
    (a__law_input_bytes : PySem.W.nsIn K mainGlobals "_law_input_bytes" = some (some (.ref fa__law_input_bytes)))
    (l__law_input_bytes : K.lookup fa__law_input_bytes = some ⟨oc__law_input_bytes, od__law_input_bytes, .func (PySem.W.fnOf "_law_input_bytes" "_law_input_bytes" (defArgs s__law_input_bytes) (defBody s__law_input_bytes) (defScope s__law_input_bytes) .none kV__law_input_bytes doc__law_input_bytes pm__law_input_bytes an__law_input_bytes cd__law_input_bytes ct__law_input_bytes), sl__law_input_bytes⟩)
    (c__law_input_bytes : PySem.W.codeIn K cd__law_input_bytes "_law_input_bytes" = true)
    (k__law_input_bytes : PySem.W.keepIn K (.ref fa__law_input_bytes) = true)
    (a__law_parsed : PySem.W.nsIn K mainGlobals "_law_parsed" = some (some (.ref fa__law_parsed)))
    (l__law_parsed : K.lookup fa__law_parsed = some ⟨oc__law_parsed, od__law_parsed, .func (PySem.W.fnOf "_law_parsed" "_law_parsed" (defArgs s__law_parsed) (defBody s__law_parsed) (defScope s__law_parsed) .none kV__law_parsed doc__law_parsed pm__law_parsed an__law_parsed cd__law_parsed ct__law_parsed), sl__law_parsed⟩)
    (c__law_parsed : PySem.W.codeIn K cd__law_parsed "_law_parsed" = true)
    (k__law_parsed : PySem.W.keepIn K (.ref fa__law_parsed) = true)
    (a__law_read_told : PySem.W.nsIn K mainGlobals "_law_read_told" = some (some (.ref fa__law_read_told)))
    (l__law_read_told : K.lookup fa__law_read_told = some ⟨oc__law_read_told, od__law_read_told, .func (PySem.W.fnOf "_law_read_told" "_law_read_told" (defArgs s__law_read_told) (defBody s__law_read_told) (defScope s__law_read_told) .none kV__law_read_told doc__law_read_told pm__law_read_told an__law_read_told cd__law_read_told ct__law_read_told), sl__law_read_told⟩)
    (c__law_read_told : PySem.W.codeIn K cd__law_read_told "_law_read_told" = true)
    (k__law_read_told : PySem.W.keepIn K (.ref fa__law_read_told) = true)
    (a__law_is_told : PySem.W.nsIn K mainGlobals "_law_is_told" = some (some (.ref fa__law_is_told)))
    (l__law_is_told : K.lookup fa__law_is_told = some ⟨oc__law_is_told, od__law_is_told, .func (PySem.W.fnOf "_law_is_told" "_law_is_told" (defArgs s__law_is_told) (defBody s__law_is_told) (defScope s__law_is_told) .none kV__law_is_told doc__law_is_told pm__law_is_told an__law_is_told cd__law_is_told ct__law_is_told), sl__law_is_told⟩)
    (c__law_is_told : PySem.W.codeIn K cd__law_is_told "_law_is_told" = true)
    (k__law_is_told : PySem.W.keepIn K (.ref fa__law_is_told) = true)
    (a__law_wrong_runs : PySem.W.nsIn K mainGlobals "_law_wrong_runs" = some (some (.ref fa__law_wrong_runs)))
    (l__law_wrong_runs : K.lookup fa__law_wrong_runs = some ⟨oc__law_wrong_runs, od__law_wrong_runs, .func (PySem.W.fnOf "_law_wrong_runs" "_law_wrong_runs" (defArgs s__law_wrong_runs) (defBody s__law_wrong_runs) (defScope s__law_wrong_runs) .none kV__law_wrong_runs doc__law_wrong_runs pm__law_wrong_runs an__law_wrong_runs cd__law_wrong_runs ct__law_wrong_runs), sl__law_wrong_runs⟩)
    (c__law_wrong_runs : PySem.W.codeIn K cd__law_wrong_runs "_law_wrong_runs" = true)
    (k__law_wrong_runs : PySem.W.keepIn K (.ref fa__law_wrong_runs) = true)
    (a__law_is_guess : PySem.W.nsIn K mainGlobals "_law_is_guess" = some (some (.ref fa__law_is_guess)))
    (l__law_is_guess : K.lookup fa__law_is_guess = some ⟨oc__law_is_guess, od__law_is_guess, .func (PySem.W.fnOf "_law_is_guess" "_law_is_guess" (defArgs s__law_is_guess) (defBody s__law_is_guess) (defScope s__law_is_guess) .none kV__law_is_guess doc__law_is_guess pm__law_is_guess an__law_is_guess cd__law_is_guess ct__law_is_guess), sl__law_is_guess⟩)
    (c__law_is_guess : PySem.W.codeIn K cd__law_is_guess "_law_is_guess" = true)
    (k__law_is_guess : PySem.W.keepIn K (.ref fa__law_is_guess) = true)
    (a_law : PySem.W.nsIn K mainGlobals "law" = some (some (.ref fa_law)))
    (l_law : K.lookup fa_law = some ⟨oc_law, od_law, .func (PySem.W.fnOf "law" "law" (defArgs s_law) (defBody s_law) (defScope s_law) .none kV_law doc_law pm_law an_law cd_law ct_law), sl_law⟩)
    (c_law : PySem.W.codeIn K cd_law "law" = true)
    (k_law : PySem.W.keepIn K (.ref fa_law) = true)
    (m_BYTE : PySem.W.nsIn K mainGlobals "BYTE" = some (some (.int 256 tk1)))
    (m_FIGURE : PySem.W.nsIn K mainGlobals "FIGURE" = some (some (.int 128 tk2)))
    (m_MOST_AGO : PySem.W.nsIn K mainGlobals "MOST_AGO" = some (some (.int 100000 tk3)))
    (m_MOST_BYTES : PySem.W.nsIn K mainGlobals "MOST_BYTES" = some (some (.int 300000 tk4)))
    (m_MOST_FIGURES : PySem.W.nsIn K mainGlobals "MOST_FIGURES" = some (some (.int 10 tk5)))
    (m_MOST_HOLD : PySem.W.nsIn K mainGlobals "MOST_HOLD" = some (some (.int 600 tk6)))
    (m_MOST_INPUTS : PySem.W.nsIn K mainGlobals "MOST_INPUTS" = some (some (.int 100000 tk7)))
    (m_WHOLE_BOUND : PySem.W.nsIn K mainGlobals "WHOLE_BOUND" = some (some (.int 18446744073709551616 tk8)))
    (n_all : PySem.W.nsIn K mainGlobals "all" = some none)
    (n_bool : PySem.W.nsIn K mainGlobals "bool" = some none)
    (n_int : PySem.W.nsIn K mainGlobals "int" = some none)
    (n_isinstance : PySem.W.nsIn K mainGlobals "isinstance" = some none)
    (n_len : PySem.W.nsIn K mainGlobals "len" = some none)
    (n_list : PySem.W.nsIn K mainGlobals "list" = some none)
    (n_max : PySem.W.nsIn K mainGlobals "max" = some none)
    (n_min : PySem.W.nsIn K mainGlobals "min" = some none)
    (n_range : PySem.W.nsIn K mainGlobals "range" = some none)
    (n_tuple : PySem.W.nsIn K mainGlobals "tuple" = some none)
    (n_zip : PySem.W.nsIn K mainGlobals "zip" = some none)
    (i_Reader_next_byte : PySem.W.isFn K (.ref fa_Reader_next_byte) = true)
    (i_Reader_next_number : PySem.W.isFn K (.ref fa_Reader_next_number) = true)
    (i_Reader_init : PySem.W.isFn K (.ref fa_Reader_init) = true)
    (mkc_Reader : PySem.W.makesIn K A_Reader = true)
    (kc_Reader : PySem.W.keepIn K (.ref A_Reader) = true)
    (pg_Reader : PySem.W.plainGet K A_Reader Str.empty = true)
    (hd_Reader : PySem.W.hasDictIn K A_Reader = true)
    (po_Reader : PySem.W.plainOver K A_Reader = true)
    (sa_Reader : PySem.W.findIn K (.ref A_Reader) "__setattr__" = some (some (.builtin "object.__setattr__")))
    (na_Reader_at : PySem.W.findIn K (.ref A_Reader) (Str.ofString "at") = some none)
    (na_Reader_last : PySem.W.findIn K (.ref A_Reader) (Str.ofString "last") = some none)
    (na_Reader_row : PySem.W.findIn K (.ref A_Reader) (Str.ofString "row") = some none)
    (m_WorldError : PySem.W.nsIn K mainGlobals "WorldError" = some (some (.ref A_WorldError)))
    (xq_WorldError : PySem.W.excIn K A_WorldError [.type "ValueError", .type "Exception", .type "BaseException", .type "object"] "ValueError.__new__" = true)
    (xk_WorldError : PySem.W.keepIn K (.ref A_WorldError) = true)
    (xb_WorldError : PySem.W.subIn K (.ref A_WorldError) (.type "BaseException") = some true)
    (xt_WorldError : PySem.W.typeIn K (.ref A_WorldError) = some (.type "type"))
    (m_NoNumber : PySem.W.nsIn K mainGlobals "NoNumber" = some (some (.ref A_NoNumber)))
    (xq_NoNumber : PySem.W.excIn K A_NoNumber [.type "ValueError", .type "Exception", .type "BaseException", .type "object"] "ValueError.__new__" = true)
    (xk_NoNumber : PySem.W.keepIn K (.ref A_NoNumber) = true)
    (xb_NoNumber : PySem.W.subIn K (.ref A_NoNumber) (.type "BaseException") = some true)
    (xt_NoNumber : PySem.W.typeIn K (.ref A_NoNumber) = some (.type "type"))
    (m_NoInputs : PySem.W.nsIn K mainGlobals "NoInputs" = some (some (.ref A_NoInputs)))
    (xq_NoInputs : PySem.W.excIn K A_NoInputs [.type "ValueError", .type "Exception", .type "BaseException", .type "object"] "ValueError.__new__" = true)
    (xk_NoInputs : PySem.W.keepIn K (.ref A_NoInputs) = true)
    (xb_NoInputs : PySem.W.subIn K (.ref A_NoInputs) (.type "BaseException") = some true)
    (xt_NoInputs : PySem.W.typeIn K (.ref A_NoInputs) = some (.type "type"))
    (m_NoRow : PySem.W.nsIn K mainGlobals "NoRow" = some (some (.ref A_NoRow)))
    (xq_NoRow : PySem.W.excIn K A_NoRow [.type "ValueError", .type "Exception", .type "BaseException", .type "object"] "ValueError.__new__" = true)
    (xk_NoRow : PySem.W.keepIn K (.ref A_NoRow) = true)
    (xb_NoRow : PySem.W.subIn K (.ref A_NoRow) (.type "BaseException") = some true)
    (xt_NoRow : PySem.W.typeIn K (.ref A_NoRow) = some (.type "type"))
    (m_NoPlace : PySem.W.nsIn K mainGlobals "NoPlace" = some (some (.ref A_NoPlace)))
    (xq_NoPlace : PySem.W.excIn K A_NoPlace [.type "ValueError", .type "Exception", .type "BaseException", .type "object"] "ValueError.__new__" = true)
    (xk_NoPlace : PySem.W.keepIn K (.ref A_NoPlace) = true)
    (xb_NoPlace : PySem.W.subIn K (.ref A_NoPlace) (.type "BaseException") = some true)
    (xt_NoPlace : PySem.W.typeIn K (.ref A_NoPlace) = some (.type "type"))
    (m_BadRow : PySem.W.nsIn K mainGlobals "BadRow" = some (some (.ref A_BadRow)))
    (xl_BadRow : K.lookup A_BadRow = some (excClassObj nm_BadRow q_BadRow A_BadRow N_BadRow bs_BadRow [.ref bw0_BadRow, .type "ValueError", .type "Exception", .type "BaseException", .type "object"] true sn_BadRow sub_BadRow ab_BadRow col_BadRow dd_BadRow m0_BadRow m1_BadRow m2_BadRow m3_BadRow m5_BadRow "ValueError.__new__"))
    (sa_BadRow : PySem.W.findIn K (.ref A_BadRow) "__setattr__" = some (some (.builtin "object.__setattr__")))
    (ga_BadRow : PySem.W.findIn K (.ref A_BadRow) "__getattribute__" = some (some (.builtin "BaseException.__getattribute__")))
    (gg_BadRow : PySem.W.findIn K (.ref A_BadRow) "__getattr__" = some none)
    (xk_BadRow : PySem.W.keepIn K (.ref A_BadRow) = true)
    (xb_BadRow : PySem.W.subIn K (.ref A_BadRow) (.type "BaseException") = some true)
    (xt_BadRow : PySem.W.typeIn K (.ref A_BadRow) = some (.type "type"))
    (hd_BadRow : PySem.W.hasDictIn K A_BadRow = true)
    (nf_BadRow : PySem.W.findIn K (.ref A_BadRow) (Str.ofString "place") = some none)
    (i_BadRow : PySem.W.findIn K (.ref A_BadRow) "__init__" = some (some (.ref fi_BadRow)))
    (t_BadRow : PySem.W.typeIn K (.ref fi_BadRow) = some (.type "function"))
    (l_BadRow_init : K.lookup fi_BadRow = some ⟨oc_BadRow_init, od_BadRow_init, .func (PySem.W.fnOf "__init__" "BadRow.__init__" (defArgs s_BadRow_init) (defBody s_BadRow_init) (defScope s_BadRow_init) .none kV_BadRow_init doc_BadRow_init pm_BadRow_init an_BadRow_init cd_BadRow_init ct_BadRow_init), sl_BadRow_init⟩)
    (c_BadRow_init : PySem.W.codeIn K cd_BadRow_init "BadRow.__init__" = true)
    (k_BadRow_init : PySem.W.keepIn K (.ref fi_BadRow) = true)
    (m_Reader : PySem.W.nsIn K mainGlobals "Reader" = some (some (.ref A_Reader)))
    (ic_BadRow : PySem.W.isClsIn K A_BadRow = true)
    (e_BadRow_BadRow : PySem.W.subIn K (.ref A_BadRow) (.ref A_BadRow) = some true)
    (e_NoPlace_BadRow : PySem.W.subIn K (.ref A_NoPlace) (.ref A_BadRow) = some false)
    (e_NoRow_BadRow : PySem.W.subIn K (.ref A_NoRow) (.ref A_BadRow) = some false) : Tx K mg { ad0 with WorldError := A_WorldError, NoNumber := A_NoNumber, NoInputs := A_NoInputs, NoRow := A_NoRow, NoPlace := A_NoPlace, BadRow := A_BadRow, Reader := A_Reader, ot := ⟨[], []⟩ } := {
    a_is_integer := fa_is_integer, fd_is_integer := _, F_is_integer := fun_mk (st := s_is_integer) l_is_integer c_is_integer k_is_integer
    m_is_integer := PySem.W.mg_of X G a_is_integer
    b_is_integer := (fun_mk (st := s_is_integer) l_is_integer c_is_integer k_is_integer).binds (ps := [Str.ofString "thing"]) fun _ _ _ _ _ _ us hl => match us, hl with | [_], _ => rfl
    a_is_within := fa_is_within, fd_is_within := _, F_is_within := fun_mk (st := s_is_within) l_is_within c_is_within k_is_within
    m_is_within := PySem.W.mg_of X G a_is_within
    b_is_within := (fun_mk (st := s_is_within) l_is_within c_is_within k_is_within).binds (ps := [Str.ofString "thing", Str.ofString "least", Str.ofString "most"]) fun _ _ _ _ _ _ us hl => match us, hl with | [_, _, _], _ => rfl
    a_is_below := fa_is_below, fd_is_below := _, F_is_below := fun_mk (st := s_is_below) l_is_below c_is_below k_is_below
    m_is_below := PySem.W.mg_of X G a_is_below
    b_is_below := (fun_mk (st := s_is_below) l_is_below c_is_below k_is_below).binds (ps := [Str.ofString "thing", Str.ofString "many"]) fun _ _ _ _ _ _ us hl => match us, hl with | [_, _], _ => rfl
    a_is_row := fa_is_row, fd_is_row := _, F_is_row := fun_mk (st := s_is_row) l_is_row c_is_row k_is_row
    m_is_row := PySem.W.mg_of X G a_is_row
    b_is_row := (fun_mk (st := s_is_row) l_is_row c_is_row k_is_row).binds (ps := [Str.ofString "thing"]) fun _ _ _ _ _ _ us hl => match us, hl with | [_], _ => rfl
    a_check_row := fa_check_row, fd_check_row := _, F_check_row := fun_mk (st := s_check_row) l_check_row c_check_row k_check_row
    m_check_row := PySem.W.mg_of X G a_check_row
    b_check_row := (fun_mk (st := s_check_row) l_check_row c_check_row k_check_row).binds (ps := [Str.ofString "thing"]) fun _ _ _ _ _ _ us hl => match us, hl with | [_], _ => rfl
    a_figures_of := fa_figures_of, fd_figures_of := _, F_figures_of := fun_mk (st := s_figures_of) l_figures_of c_figures_of k_figures_of
    m_figures_of := PySem.W.mg_of X G a_figures_of
    b_figures_of := (fun_mk (st := s_figures_of) l_figures_of c_figures_of k_figures_of).binds (ps := [Str.ofString "number"]) fun _ _ _ _ _ _ us hl => match us, hl with | [_], _ => rfl
    a_number_at := fa_number_at, fd_number_at := _, F_number_at := fun_mk (st := s_number_at) l_number_at c_number_at k_number_at
    m_number_at := PySem.W.mg_of X G a_number_at
    b_number_at := (fun_mk (st := s_number_at) l_number_at c_number_at k_number_at).binds (ps := [Str.ofString "row", Str.ofString "at"]) fun _ _ _ _ _ _ us hl => match us, hl with | [_, _], _ => rfl
    a_taken := fa_taken, fd_taken := _, F_taken := fun_mk (st := s_taken) l_taken c_taken k_taken
    m_taken := PySem.W.mg_of X G a_taken
    b_taken := (fun_mk (st := s_taken) l_taken c_taken k_taken).binds (ps := [Str.ofString "row", Str.ofString "at"]) fun _ _ _ _ _ _ us hl => match us, hl with | [_, _], _ => rfl
    a_check_place := fa_check_place, fd_check_place := _, F_check_place := fun_mk (st := s_check_place) l_check_place c_check_place k_check_place
    m_check_place := PySem.W.mg_of X G a_check_place
    b_check_place := (fun_mk (st := s_check_place) l_check_place c_check_place k_check_place).binds (ps := [Str.ofString "row", Str.ofString "at"]) fun _ _ _ _ _ _ us hl => match us, hl with | [_, _], _ => rfl
    a_Reader_init := fa_Reader_init, fd_Reader_init := _, F_Reader_init := fun_mk (st := s_Reader_init) l_Reader_init c_Reader_init k_Reader_init
    b_Reader_init := (fun_mk (st := s_Reader_init) l_Reader_init c_Reader_init k_Reader_init).binds (ps := [Str.ofString "self", Str.ofString "row", Str.ofString "at"]) fun _ _ _ _ _ _ us hl => match us, hl with | [_, _, _], _ => rfl
    a_Reader_next_number := fa_Reader_next_number, fd_Reader_next_number := _, F_Reader_next_number := fun_mk (st := s_Reader_next_number) l_Reader_next_number c_Reader_next_number k_Reader_next_number
    b_Reader_next_number := (fun_mk (st := s_Reader_next_number) l_Reader_next_number c_Reader_next_number k_Reader_next_number).binds (ps := [Str.ofString "self"]) fun _ _ _ _ _ _ us hl => match us, hl with | [_], _ => rfl
    a_Reader_next_byte := fa_Reader_next_byte, fd_Reader_next_byte := _, F_Reader_next_byte := fun_mk (st := s_Reader_next_byte) l_Reader_next_byte c_Reader_next_byte k_Reader_next_byte
    b_Reader_next_byte := (fun_mk (st := s_Reader_next_byte) l_Reader_next_byte c_Reader_next_byte k_Reader_next_byte).binds (ps := [Str.ofString "self"]) fun _ _ _ _ _ _ us hl => match us, hl with | [_], _ => rfl
    a_is_input := fa_is_input, fd_is_input := _, F_is_input := fun_mk (st := s_is_input) l_is_input c_is_input k_is_input
    m_is_input := PySem.W.mg_of X G a_is_input
    b_is_input := (fun_mk (st := s_is_input) l_is_input c_is_input k_is_input).binds (ps := [Str.ofString "thing"]) fun _ _ _ _ _ _ us hl => match us, hl with | [_], _ => rfl
    a_are_inputs := fa_are_inputs, fd_are_inputs := _, F_are_inputs := fun_mk (st := s_are_inputs) l_are_inputs c_are_inputs k_are_inputs
    m_are_inputs := PySem.W.mg_of X G a_are_inputs
    b_are_inputs := (fun_mk (st := s_are_inputs) l_are_inputs c_are_inputs k_are_inputs).binds (ps := [Str.ofString "thing"]) fun _ _ _ _ _ _ us hl => match us, hl with | [_], _ => rfl
    a_check_inputs := fa_check_inputs, fd_check_inputs := _, F_check_inputs := fun_mk (st := s_check_inputs) l_check_inputs c_check_inputs k_check_inputs
    m_check_inputs := PySem.W.mg_of X G a_check_inputs
    b_check_inputs := (fun_mk (st := s_check_inputs) l_check_inputs c_check_inputs k_check_inputs).binds (ps := [Str.ofString "thing"]) fun _ _ _ _ _ _ us hl => match us, hl with | [_], _ => rfl
    a_check_input := fa_check_input, fd_check_input := _, F_check_input := fun_mk (st := s_check_input) l_check_input c_check_input k_check_input
    m_check_input := PySem.W.mg_of X G a_check_input
    b_check_input := (fun_mk (st := s_check_input) l_check_input c_check_input k_check_input).binds (ps := [Str.ofString "thing"]) fun _ _ _ _ _ _ us hl => match us, hl with | [_], _ => rfl
    a_runs_of := fa_runs_of, fd_runs_of := _, F_runs_of := fun_mk (st := s_runs_of) l_runs_of c_runs_of k_runs_of
    m_runs_of := PySem.W.mg_of X G a_runs_of
    b_runs_of := (fun_mk (st := s_runs_of) l_runs_of c_runs_of k_runs_of).binds (ps := [Str.ofString "inputs"]) fun _ _ _ _ _ _ us hl => match us, hl with | [_], _ => rfl
    a_run_row := fa_run_row, fd_run_row := _, F_run_row := fun_mk (st := s_run_row) l_run_row c_run_row k_run_row
    m_run_row := PySem.W.mg_of X G a_run_row
    b_run_row := (fun_mk (st := s_run_row) l_run_row c_run_row k_run_row).binds (ps := [Str.ofString "inputs"]) fun _ _ _ _ _ _ us hl => match us, hl with | [_], _ => rfl
    a_input_row := fa_input_row, fd_input_row := _, F_input_row := fun_mk (st := s_input_row) l_input_row c_input_row k_input_row
    m_input_row := PySem.W.mg_of X G a_input_row
    b_input_row := (fun_mk (st := s_input_row) l_input_row c_input_row k_input_row).binds (ps := [Str.ofString "inputs"]) fun _ _ _ _ _ _ us hl => match us, hl with | [_], _ => rfl
    a_taken_inputs := fa_taken_inputs, fd_taken_inputs := _, F_taken_inputs := fun_mk (st := s_taken_inputs) l_taken_inputs c_taken_inputs k_taken_inputs
    m_taken_inputs := PySem.W.mg_of X G a_taken_inputs
    b_taken_inputs := (fun_mk (st := s_taken_inputs) l_taken_inputs c_taken_inputs k_taken_inputs).binds (ps := [Str.ofString "reader"]) fun _ _ _ _ _ _ us hl => match us, hl with | [_], _ => rfl
    a_read_inputs := fa_read_inputs, fd_read_inputs := _, F_read_inputs := fun_mk (st := s_read_inputs) l_read_inputs c_read_inputs k_read_inputs
    m_read_inputs := PySem.W.mg_of X G a_read_inputs
    b_read_inputs := (fun_mk (st := s_read_inputs) l_read_inputs c_read_inputs k_read_inputs).binds (ps := [Str.ofString "row", Str.ofString "at"]) fun _ _ _ _ _ _ us hl => match us, hl with | [_, _], _ => rfl
    a_guessed := fa_guessed, fd_guessed := _, F_guessed := fun_mk (st := s_guessed) l_guessed c_guessed k_guessed
    m_guessed := PySem.W.mg_of X G a_guessed
    b_guessed := (fun_mk (st := s_guessed) l_guessed c_guessed k_guessed).binds (ps := [Str.ofString "last", Str.ofString "ago", Str.ofString "hold"]) fun _ _ _ _ _ _ us hl => match us, hl with | [_, _, _], _ => rfl
    a_guess := fa_guess, fd_guess := _, F_guess := fun_mk (st := s_guess) l_guess c_guess k_guess
    m_guess := PySem.W.mg_of X G a_guess
    b_guess := (fun_mk (st := s_guess) l_guess c_guess k_guess).binds (ps := [Str.ofString "last", Str.ofString "ago", Str.ofString "hold"]) fun _ _ _ _ _ _ us hl => match us, hl with | [_, _, _], _ => rfl
    a__law_hand := fa__law_hand, fd__law_hand := _, F__law_hand := fun_mk (st := s__law_hand) l__law_hand c__law_hand k__law_hand
    m__law_hand := PySem.W.mg_of X G a__law_hand
    b__law_hand := (fun_mk (st := s__law_hand) l__law_hand c__law_hand k__law_hand).binds (ps := [Str.ofString "_law_script"]) fun _ _ _ _ _ _ us hl => match us, hl with | [_], _ => rfl
    a__law_draw := fa__law_draw, fd__law_draw := _, F__law_draw := fun_mk (st := s__law_draw) l__law_draw c__law_draw k__law_draw
    m__law_draw := PySem.W.mg_of X G a__law_draw
    b__law_draw := (fun_mk (st := s__law_draw) l__law_draw c__law_draw k__law_draw).binds (ps := [Str.ofString "_law_hand_here", Str.ofString "_law_many"]) fun _ _ _ _ _ _ us hl => match us, hl with | [_, _], _ => rfl
    a__law_is := fa__law_is, fd__law_is := _, F__law_is := fun_mk (st := s__law_is) l__law_is c__law_is k__law_is
    m__law_is := PySem.W.mg_of X G a__law_is
    b__law_is := (fun_mk (st := s__law_is) l__law_is c__law_is k__law_is).binds (ps := [Str.ofString "_law_told", Str.ofString "_law_due"]) fun _ _ _ _ _ _ us hl => match us, hl with | [_, _], _ => rfl
    a__law_whole := fa__law_whole, fd__law_whole := _, F__law_whole := fun_mk (st := s__law_whole) l__law_whole c__law_whole k__law_whole
    m__law_whole := PySem.W.mg_of X G a__law_whole
    b__law_whole := (fun_mk (st := s__law_whole) l__law_whole c__law_whole k__law_whole).binds (ps := [Str.ofString "_law_number"]) fun _ _ _ _ _ _ us hl => match us, hl with | [_], _ => rfl
    a__law_read := fa__law_read, fd__law_read := _, F__law_read := fun_mk (st := s__law_read) l__law_read c__law_read k__law_read
    m__law_read := PySem.W.mg_of X G a__law_read
    b__law_read := (fun_mk (st := s__law_read) l__law_read c__law_read k__law_read).binds (ps := [Str.ofString "_law_row", Str.ofString "_law_at"]) fun _ _ _ _ _ _ us hl => match us, hl with | [_, _], _ => rfl
    a__law_byte := fa__law_byte, fd__law_byte := _, F__law_byte := fun_mk (st := s__law_byte) l__law_byte c__law_byte k__law_byte
    m__law_byte := PySem.W.mg_of X G a__law_byte
    b__law_byte := (fun_mk (st := s__law_byte) l__law_byte c__law_byte k__law_byte).binds (ps := [Str.ofString "_law_hand_here"]) fun _ _ _ _ _ _ us hl => match us, hl with | [_], _ => rfl
    a__law_bytes := fa__law_bytes, fd__law_bytes := _, F__law_bytes := fun_mk (st := s__law_bytes) l__law_bytes c__law_bytes k__law_bytes
    m__law_bytes := PySem.W.mg_of X G a__law_bytes
    b__law_bytes := (fun_mk (st := s__law_bytes) l__law_bytes c__law_bytes k__law_bytes).binds (ps := [Str.ofString "_law_hand_here", Str.ofString "_law_most"]) fun _ _ _ _ _ _ us hl => match us, hl with | [_, _], _ => rfl
    a__law_spoilt := fa__law_spoilt, fd__law_spoilt := _, F__law_spoilt := fun_mk (st := s__law_spoilt) l__law_spoilt c__law_spoilt k__law_spoilt
    m__law_spoilt := PySem.W.mg_of X G a__law_spoilt
    b__law_spoilt := (fun_mk (st := s__law_spoilt) l__law_spoilt c__law_spoilt k__law_spoilt).binds (ps := [Str.ofString "_law_hand_here", Str.ofString "_law_row"]) fun _ _ _ _ _ _ us hl => match us, hl with | [_, _], _ => rfl
    a__law_runs := fa__law_runs, fd__law_runs := _, F__law_runs := fun_mk (st := s__law_runs) l__law_runs c__law_runs k__law_runs
    m__law_runs := PySem.W.mg_of X G a__law_runs
    b__law_runs := (fun_mk (st := s__law_runs) l__law_runs c__law_runs k__law_runs).binds (ps := [Str.ofString "_law_hand_here"]) fun _ _ _ _ _ _ us hl => match us, hl with | [_], _ => rfl
    a__law_ticks := fa__law_ticks, fd__law_ticks := _, F__law_ticks := fun_mk (st := s__law_ticks) l__law_ticks c__law_ticks k__law_ticks
    m__law_ticks := PySem.W.mg_of X G a__law_ticks
    b__law_ticks := (fun_mk (st := s__law_ticks) l__law_ticks c__law_ticks k__law_ticks).binds (ps := [Str.ofString "_law_runs_here"]) fun _ _ _ _ _ _ us hl => match us, hl with | [_], _ => rfl
    a__law_run_bytes := fa__law_run_bytes, fd__law_run_bytes := _, F__law_run_bytes := fun_mk (st := s__law_run_bytes) l__law_run_bytes c__law_run_bytes k__law_run_bytes
    m__law_run_bytes := PySem.W.mg_of X G a__law_run_bytes
    b__law_run_bytes := (fun_mk (st := s__law_run_bytes) l__law_run_bytes c__law_run_bytes k__law_run_bytes).binds (ps := [Str.ofString "_law_runs_here"]) fun _ _ _ _ _ _ us hl => match us, hl with | [_], _ => rfl
    a__law_input_bytes := fa__law_input_bytes, fd__law_input_bytes := _, F__law_input_bytes := fun_mk (st := s__law_input_bytes) l__law_input_bytes c__law_input_bytes k__law_input_bytes
    m__law_input_bytes := PySem.W.mg_of X G a__law_input_bytes
    b__law_input_bytes := (fun_mk (st := s__law_input_bytes) l__law_input_bytes c__law_input_bytes k__law_input_bytes).binds (ps := [Str.ofString "_law_inputs"]) fun _ _ _ _ _ _ us hl => match us, hl with | [_], _ => rfl
    a__law_parsed := fa__law_parsed, fd__law_parsed := _, F__law_parsed := fun_mk (st := s__law_parsed) l__law_parsed c__law_parsed k__law_parsed
    m__law_parsed := PySem.W.mg_of X G a__law_parsed
    b__law_parsed := (fun_mk (st := s__law_parsed) l__law_parsed c__law_parsed k__law_parsed).binds (ps := [Str.ofString "_law_row", Str.ofString "_law_at"]) fun _ _ _ _ _ _ us hl => match us, hl with | [_, _], _ => rfl
    a__law_read_told := fa__law_read_told, fd__law_read_told := _, F__law_read_told := fun_mk (st := s__law_read_told) l__law_read_told c__law_read_told k__law_read_told
    m__law_read_told := PySem.W.mg_of X G a__law_read_told
    b__law_read_told := (fun_mk (st := s__law_read_told) l__law_read_told c__law_read_told k__law_read_told).binds (ps := [Str.ofString "_law_row", Str.ofString "_law_at"]) fun _ _ _ _ _ _ us hl => match us, hl with | [_, _], _ => rfl
    a__law_is_told := fa__law_is_told, fd__law_is_told := _, F__law_is_told := fun_mk (st := s__law_is_told) l__law_is_told c__law_is_told k__law_is_told
    m__law_is_told := PySem.W.mg_of X G a__law_is_told
    b__law_is_told := (fun_mk (st := s__law_is_told) l__law_is_told c__law_is_told k__law_is_told).binds (ps := [Str.ofString "_law_row", Str.ofString "_law_at"]) fun _ _ _ _ _ _ us hl => match us, hl with | [_, _], _ => rfl
    a__law_wrong_runs := fa__law_wrong_runs, fd__law_wrong_runs := _, F__law_wrong_runs := fun_mk (st := s__law_wrong_runs) l__law_wrong_runs c__law_wrong_runs k__law_wrong_runs
    m__law_wrong_runs := PySem.W.mg_of X G a__law_wrong_runs
    b__law_wrong_runs := (fun_mk (st := s__law_wrong_runs) l__law_wrong_runs c__law_wrong_runs k__law_wrong_runs).binds (ps := [Str.ofString "_law_hand_here", Str.ofString "_law_runs_here"]) fun _ _ _ _ _ _ us hl => match us, hl with | [_, _], _ => rfl
    a__law_is_guess := fa__law_is_guess, fd__law_is_guess := _, F__law_is_guess := fun_mk (st := s__law_is_guess) l__law_is_guess c__law_is_guess k__law_is_guess
    m__law_is_guess := PySem.W.mg_of X G a__law_is_guess
    b__law_is_guess := (fun_mk (st := s__law_is_guess) l__law_is_guess c__law_is_guess k__law_is_guess).binds (ps := [Str.ofString "_law_hand_here"]) fun _ _ _ _ _ _ us hl => match us, hl with | [_], _ => rfl
    a_law := fa_law, fd_law := _, F_law := fun_mk (st := s_law) l_law c_law k_law
    m_law := PySem.W.mg_of X G a_law
    b_law := (fun_mk (st := s_law) l_law c_law k_law).binds (ps := [Str.ofString "_law_script"]) fun _ _ _ _ _ _ us hl => match us, hl with | [_], _ => rfl
    u_BYTE := _, m_BYTE := PySem.W.mg_of X G m_BYTE, v_BYTE := v_int
    u_FIGURE := _, m_FIGURE := PySem.W.mg_of X G m_FIGURE, v_FIGURE := v_int
    u_MOST_AGO := _, m_MOST_AGO := PySem.W.mg_of X G m_MOST_AGO, v_MOST_AGO := v_int
    u_MOST_BYTES := _, m_MOST_BYTES := PySem.W.mg_of X G m_MOST_BYTES, v_MOST_BYTES := v_int
    u_MOST_FIGURES := _, m_MOST_FIGURES := PySem.W.mg_of X G m_MOST_FIGURES, v_MOST_FIGURES := v_int
    u_MOST_HOLD := _, m_MOST_HOLD := PySem.W.mg_of X G m_MOST_HOLD, v_MOST_HOLD := v_int
    u_MOST_INPUTS := _, m_MOST_INPUTS := PySem.W.mg_of X G m_MOST_INPUTS, v_MOST_INPUTS := v_int
    u_WHOLE_BOUND := _, m_WHOLE_BOUND := PySem.W.mg_of X G m_WHOLE_BOUND, v_WHOLE_BOUND := v_int
    n_all := PySem.W.mg_none_of X G n_all
    n_bool := PySem.W.mg_none_of X G n_bool
    n_int := PySem.W.mg_none_of X G n_int
    n_isinstance := PySem.W.mg_none_of X G n_isinstance
    n_len := PySem.W.mg_none_of X G n_len
    n_list := PySem.W.mg_none_of X G n_list
    n_max := PySem.W.mg_none_of X G n_max
    n_min := PySem.W.mg_none_of X G n_min
    n_range := PySem.W.mg_none_of X G n_range
    n_tuple := PySem.W.mg_none_of X G n_tuple
    n_zip := PySem.W.mg_none_of X G n_zip
    me_Reader_next_byte := ⟨a_Reader_next_byte, i_Reader_next_byte, k_Reader_next_byte⟩
    me_Reader_next_number := ⟨a_Reader_next_number, i_Reader_next_number, k_Reader_next_number⟩
    mk_Reader := ⟨mkc_Reader, a_Reader_init, i_Reader_init, kc_Reader⟩
    c_Reader := ⟨pg_Reader, hd_Reader, po_Reader, sa_Reader⟩
    na_Reader_at := na_Reader_at
    na_Reader_last := na_Reader_last
    na_Reader_row := na_Reader_row
    ot := otab_nil
    m_WorldError := PySem.W.mg_of X G m_WorldError
    x_WorldError := ⟨xq_WorldError, xk_WorldError, xb_WorldError, xt_WorldError⟩
    m_NoNumber := PySem.W.mg_of X G m_NoNumber
    x_NoNumber := ⟨xq_NoNumber, xk_NoNumber, xb_NoNumber, xt_NoNumber⟩
    m_NoInputs := PySem.W.mg_of X G m_NoInputs
    x_NoInputs := ⟨xq_NoInputs, xk_NoInputs, xb_NoInputs, xt_NoInputs⟩
    m_NoRow := PySem.W.mg_of X G m_NoRow
    x_NoRow := ⟨xq_NoRow, xk_NoRow, xb_NoRow, xt_NoRow⟩
    m_NoPlace := PySem.W.mg_of X G m_NoPlace
    x_NoPlace := ⟨xq_NoPlace, xk_NoPlace, xb_NoPlace, xt_NoPlace⟩
    m_BadRow := PySem.W.mg_of X G m_BadRow
    o_BadRow := ⟨⟨_, _, _, _, _, _, _, _, _, _, _, _, _, _, _, xl_BadRow, (ve_step ve_base)⟩, sa_BadRow, xb_BadRow, xt_BadRow, xk_BadRow⟩
    z_BadRow := ⟨ga_BadRow, gg_BadRow, xb_BadRow, hd_BadRow⟩, nf_BadRow := nf_BadRow, ai_BadRow := fi_BadRow, fdi_BadRow := _, i_BadRow := i_BadRow, t_BadRow := t_BadRow
    Fi_BadRow := fun_mk (st := s_BadRow_init) l_BadRow_init c_BadRow_init k_BadRow_init
    bi_BadRow := (fun_mk (st := s_BadRow_init) l_BadRow_init c_BadRow_init k_BadRow_init).binds (ps := [Str.ofString "self", Str.ofString "place"]) fun _ _ _ _ _ _ us hl => match us, hl with | [_, _], _ => rfl
    m_Reader := PySem.W.mg_of X G m_Reader
    e_BadRow_BadRow := exm_mk xb_BadRow ic_BadRow xt_BadRow e_BadRow_BadRow
    e_NoPlace_BadRow := exm_mk xb_BadRow ic_BadRow xt_BadRow e_NoPlace_BadRow
    e_NoRow_BadRow := exm_mk xb_BadRow ic_BadRow xt_BadRow e_NoRow_BadRow }
theorem law_mk {P : Program} {w : World} {K : PySem.W.Frag} {h : Heap} {mg : Str → Option Value} {A : Ad} {fa : Addr} (hfa : mg "law" = some (.ref fa)) (T : Tx K mg A) :
    ∃ fd : FuncData, (∀ (s : Shared) (v : Value), BindsTo s fd ⟨[v], []⟩ [(Str.ofString "_law_script", v)]) ∧ ∀ base : Heap, K.In base → base.Ns mainGlobals mg → FnD P w K mg base 10 fa fd [Str.ofString "_law_script"] spLaw := by
  have e := hfa.symm.trans T.m_law
  cases e
  refine ⟨T.fd_law, fun s v => ?_, fun base _ _ => all_mk_ok T⟩
  obtain ⟨oc, od, kV, doc, pm, an, cdv, ct, osl, e, _, _⟩ := T.F_law.ex
  rw [e]
  exact .of_eq rfl
end Lw
open PySem PySem.W PyProof.Rows
set_option maxRecDepth 100000 in
set_option maxHeartbeats 0 in
theorem PySem.Challenge.cw_guessedworlds_k26_whole_inputs_as_rows_holds : PySem.Challenge.rw_guessedworlds_k26_whole_inputs_as_rows.Holds := by
  w_on; o_law; k_head; (case hw => w_witness2)
  k_fill
  refine VD.walkG (l := PySem.Challenge.rw_guessedworlds_k26_whole_inputs_as_rows) (n := 63) (k := 10) (x := "_law_script") (CX := fun w => L2.CX PySem.Challenge.rw_guessedworlds_k26_whole_inputs_as_rows.prog w) (sp := fun w => VD.lowF _ VD.spLaw) rfl (by decide) rfl ⟨⟨rfl, by decide, by decide⟩, rfl⟩ (fun w h Y => PySem.W.kIn_of Y) ?F (fun _ _ a ns hl hS => VD.law_in hl hS) (fun _ H s e s' h => VD.law_out H s e s' h)
  case F =>
    intro w mg fa h KX G hmg
    refine' Lw.law_mk (h := h) hmg (Lw.tx_mk KX G ?a_is_integer ?l_is_integer ?c_is_integer ?k_is_integer ?a_is_within ?l_is_within ?c_is_within ?k_is_within ?a_is_below ?l_is_below ?c_is_below ?k_is_below ?a_is_row ?l_is_row ?c_is_row ?k_is_row ?a_check_row ?l_check_row ?c_check_row ?k_check_row ?a_figures_of ?l_figures_of ?c_figures_of ?k_figures_of ?a_number_at ?l_number_at ?c_number_at ?k_number_at ?a_taken ?l_taken ?c_taken ?k_taken ?a_check_place ?l_check_place ?c_check_place ?k_check_place ?a_Reader_init ?l_Reader_init ?c_Reader_init ?k_Reader_init ?a_Reader_next_number ?l_Reader_next_number ?c_Reader_next_number ?k_Reader_next_number ?a_Reader_next_byte ?l_Reader_next_byte ?c_Reader_next_byte ?k_Reader_next_byte ?a_is_input ?l_is_input ?c_is_input ?k_is_input ?a_are_inputs ?l_are_inputs ?c_are_inputs ?k_are_inputs ?a_check_inputs ?l_check_inputs ?c_check_inputs ?k_check_inputs ?a_check_input ?l_check_input ?c_check_input ?k_check_input ?a_runs_of ?l_runs_of ?c_runs_of ?k_runs_of ?a_run_row ?l_run_row ?c_run_row ?k_run_row ?a_input_row ?l_input_row ?c_input_row ?k_input_row ?a_taken_inputs ?l_taken_inputs ?c_taken_inputs ?k_taken_inputs ?a_read_inputs ?l_read_inputs ?c_read_inputs ?k_read_inputs ?a_guessed ?l_guessed ?c_guessed ?k_guessed ?a_guess ?l_guess ?c_guess ?k_guess ?a__law_hand ?l__law_hand ?c__law_hand ?k__law_hand ?a__law_draw ?l__law_draw ?c__law_draw ?k__law_draw ?a__law_is ?l__law_is ?c__law_is ?k__law_is ?a__law_whole ?l__law_whole ?c__law_whole ?k__law_whole ?a__law_read ?l__law_read ?c__law_read ?k__law_read ?a__law_byte ?l__law_byte ?c__law_byte ?k__law_byte ?a__law_bytes ?l__law_bytes ?c__law_bytes ?k__law_bytes ?a__law_spoilt ?l__law_spoilt ?c__law_spoilt ?k__law_spoilt ?a__law_runs ?l__law_runs ?c__law_runs ?k__law_runs ?a__law_ticks ?l__law_ticks ?c__law_ticks ?k__law_ticks ?a__law_run_bytes ?l__law_run_bytes ?c__law_run_bytes ?k__law_run_bytes ?a__law_input_bytes ?l__law_input_bytes ?c__law_input_bytes ?k__law_input_bytes ?a__law_parsed ?l__law_parsed ?c__law_parsed ?k__law_parsed ?a__law_read_told ?l__law_read_told ?c__law_read_told ?k__law_read_told ?a__law_is_told ?l__law_is_told ?c__law_is_told ?k__law_is_told ?a__law_wrong_runs ?l__law_wrong_runs ?c__law_wrong_runs ?k__law_wrong_runs ?a__law_is_guess ?l__law_is_guess ?c__law_is_guess ?k__law_is_guess ?a_law ?l_law ?c_law ?k_law ?m_BYTE ?m_FIGURE ?m_MOST_AGO ?m_MOST_BYTES ?m_MOST_FIGURES ?m_MOST_HOLD ?m_MOST_INPUTS ?m_WHOLE_BOUND ?n_all ?n_bool ?n_int ?n_isinstance ?n_len ?n_list ?n_max ?n_min ?n_range ?n_tuple ?n_zip ?i_Reader_next_byte ?i_Reader_next_number ?i_Reader_init ?mkc_Reader ?kc_Reader ?pg_Reader ?hd_Reader ?po_Reader ?sa_Reader ?na_Reader_at ?na_Reader_last ?na_Reader_row ?m_WorldError ?xq_WorldError ?xk_WorldError ?xb_WorldError ?xt_WorldError ?m_NoNumber ?xq_NoNumber ?xk_NoNumber ?xb_NoNumber ?xt_NoNumber ?m_NoInputs ?xq_NoInputs ?xk_NoInputs ?xb_NoInputs ?xt_NoInputs ?m_NoRow ?xq_NoRow ?xk_NoRow ?xb_NoRow ?xt_NoRow ?m_NoPlace ?xq_NoPlace ?xk_NoPlace ?xb_NoPlace ?xt_NoPlace ?m_BadRow ?xl_BadRow ?sa_BadRow ?ga_BadRow ?gg_BadRow ?xk_BadRow ?xb_BadRow ?xt_BadRow ?hd_BadRow ?nf_BadRow ?i_BadRow ?t_BadRow ?l_BadRow_init ?c_BadRow_init ?k_BadRow_init ?m_Reader ?ic_BadRow ?e_BadRow_BadRow ?e_NoPlace_BadRow ?e_NoRow_BadRow)
    (case m_WorldError => k_is); (case m_NoNumber => k_is); (case m_NoInputs => k_is); (case m_NoRow => k_is); (case m_NoPlace => k_is); (case m_BadRow => k_is); (case m_Reader => k_is); (case a_is_integer => k_is); (case l_is_integer => k_is); (case c_is_integer => k_is); (case k_is_integer => k_is); (case a_is_within => k_is); (case l_is_within => k_is); (case c_is_within => k_is); (case k_is_within => k_is); (case a_is_below => k_is); (case l_is_below => k_is); (case c_is_below => k_is); (case k_is_below => k_is); (case a_is_row => k_is); (case l_is_row => k_is); (case c_is_row => k_is); (case k_is_row => k_is); (case a_check_row => k_is); (case l_check_row => k_is); (case c_check_row => k_is); (case k_check_row => k_is); (case a_figures_of => k_is); (case l_figures_of => k_is); (case c_figures_of => k_is); (case k_figures_of => k_is); (case a_number_at => k_is); (case l_number_at => k_is); (case c_number_at => k_is); (case k_number_at => k_is); (case a_taken => k_is); (case l_taken => k_is); (case c_taken => k_is); (case k_taken => k_is); (case a_check_place => k_is); (case l_check_place => k_is); (case c_check_place => k_is); (case k_check_place => k_is); (case a_Reader_init => k_is); (case l_Reader_init => k_is); (case c_Reader_init => k_is); (case k_Reader_init => k_is); (case a_Reader_next_number => k_is); (case l_Reader_next_number => k_is); (case c_Reader_next_number => k_is); (case k_Reader_next_number => k_is); (case a_Reader_next_byte => k_is); (case l_Reader_next_byte => k_is); (case c_Reader_next_byte => k_is); (case k_Reader_next_byte => k_is); (case a_is_input => k_is); (case l_is_input => k_is); (case c_is_input => k_is); (case k_is_input => k_is); (case a_are_inputs => k_is); (case l_are_inputs => k_is); (case c_are_inputs => k_is); (case k_are_inputs => k_is); (case a_check_inputs => k_is); (case l_check_inputs => k_is); (case c_check_inputs => k_is); (case k_check_inputs => k_is); (case a_check_input => k_is); (case l_check_input => k_is); (case c_check_input => k_is); (case k_check_input => k_is); (case a_runs_of => k_is); (case l_runs_of => k_is); (case c_runs_of => k_is); (case k_runs_of => k_is); (case a_run_row => k_is); (case l_run_row => k_is); (case c_run_row => k_is); (case k_run_row => k_is); (case a_input_row => k_is); (case l_input_row => k_is); (case c_input_row => k_is); (case k_input_row => k_is); (case a_taken_inputs => k_is); (case l_taken_inputs => k_is); (case c_taken_inputs => k_is); (case k_taken_inputs => k_is); (case a_read_inputs => k_is); (case l_read_inputs => k_is); (case c_read_inputs => k_is); (case k_read_inputs => k_is); (case a_guessed => k_is); (case l_guessed => k_is); (case c_guessed => k_is); (case k_guessed => k_is); (case a_guess => k_is); (case l_guess => k_is); (case c_guess => k_is); (case k_guess => k_is); (case a__law_hand => k_is); (case l__law_hand => k_is); (case c__law_hand => k_is); (case k__law_hand => k_is); (case a__law_draw => k_is); (case l__law_draw => k_is); (case c__law_draw => k_is); (case k__law_draw => k_is); (case a__law_is => k_is); (case l__law_is => k_is); (case c__law_is => k_is); (case k__law_is => k_is); (case a__law_whole => k_is); (case l__law_whole => k_is); (case c__law_whole => k_is); (case k__law_whole => k_is); (case a__law_read => k_is); (case l__law_read => k_is); (case c__law_read => k_is); (case k__law_read => k_is); (case a__law_byte => k_is); (case l__law_byte => k_is); (case c__law_byte => k_is); (case k__law_byte => k_is); (case a__law_bytes => k_is); (case l__law_bytes => k_is); (case c__law_bytes => k_is); (case k__law_bytes => k_is); (case a__law_spoilt => k_is); (case l__law_spoilt => k_is); (case c__law_spoilt => k_is); (case k__law_spoilt => k_is); (case a__law_runs => k_is); (case l__law_runs => k_is); (case c__law_runs => k_is); (case k__law_runs => k_is); (case a__law_ticks => k_is); (case l__law_ticks => k_is); (case c__law_ticks => k_is); (case k__law_ticks => k_is); (case a__law_run_bytes => k_is); (case l__law_run_bytes => k_is); (case c__law_run_bytes => k_is); (case k__law_run_bytes => k_is); (case a__law_input_bytes => k_is); (case l__law_input_bytes => k_is); (case c__law_input_bytes => k_is); (case k__law_input_bytes => k_is); (case a__law_parsed => k_is); (case l__law_parsed => k_is); (case c__law_parsed => k_is); (case k__law_parsed => k_is); (case a__law_read_told => k_is); (case l__law_read_told => k_is); (case c__law_read_told => k_is); (case k__law_read_told => k_is); (case a__law_is_told => k_is); (case l__law_is_told => k_is); (case c__law_is_told => k_is); (case k__law_is_told => k_is); (case a__law_wrong_runs => k_is); (case l__law_wrong_runs => k_is); (case c__law_wrong_runs => k_is); (case k__law_wrong_runs => k_is); (case a__law_is_guess => k_is); (case l__law_is_guess => k_is); (case c__law_is_guess => k_is); (case k__law_is_guess => k_is); (case a_law => k_is); (case l_law => k_is); (case c_law => k_is); (case k_law => k_is); (case m_BYTE => k_is); (case m_FIGURE => k_is); (case m_MOST_AGO => k_is); (case m_MOST_BYTES => k_is); (case m_MOST_FIGURES => k_is); (case m_MOST_HOLD => k_is); (case m_MOST_INPUTS => k_is); (case m_WHOLE_BOUND => k_is); (case n_all => k_is); (case n_bool => k_is); (case n_int => k_is); (case n_isinstance => k_is); (case n_len => k_is); (case n_list => k_is); (case n_max => k_is); (case n_min => k_is); (case n_range => k_is); (case n_tuple => k_is); (case n_zip => k_is); (case i_Reader_next_byte => k_is); (case i_Reader_next_number => k_is); (case i_Reader_init => k_is); (case mkc_Reader => k_is); (case kc_Reader => k_is); (case pg_Reader => k_is); (case hd_Reader => k_is); (case po_Reader => k_is); (case sa_Reader => k_is); (case na_Reader_at => k_is); (case na_Reader_last => k_is); (case na_Reader_row => k_is); (case xq_WorldError => k_exc); (case xk_WorldError => k_is); (case xb_WorldError => k_is); (case xt_WorldError => k_is); (case xq_NoNumber => k_exc); (case xk_NoNumber => k_is); (case xb_NoNumber => k_is); (case xt_NoNumber => k_is); (case xq_NoInputs => k_exc); (case xk_NoInputs => k_is); (case xb_NoInputs => k_is); (case xt_NoInputs => k_is); (case xq_NoRow => k_exc); (case xk_NoRow => k_is); (case xb_NoRow => k_is); (case xt_NoRow => k_is); (case xq_NoPlace => k_exc); (case xk_NoPlace => k_is); (case xb_NoPlace => k_is); (case xt_NoPlace => k_is); (case xl_BadRow => k_is); (case sa_BadRow => k_is); (case ga_BadRow => k_is); (case gg_BadRow => k_is); (case xk_BadRow => k_is); (case xb_BadRow => k_is); (case xt_BadRow => k_is); (case hd_BadRow => k_is); (case nf_BadRow => k_is); (case i_BadRow => k_is); (case t_BadRow => k_is); (case l_BadRow_init => k_is); (case c_BadRow_init => k_is); (case k_BadRow_init => k_is); (case ic_BadRow => k_is); (case e_BadRow_BadRow => k_is); (case e_NoPlace_BadRow => k_is); (case e_NoRow_BadRow => k_is)
