import PyProof.Rows.All
import Wide.All
import OpenK.AllK
import Wide.FinOn
import HandS.ForMost
import HandS.ForExc
import HandS.IsInst
import HandS.TupAny
import HandS.Wide
import HandS.TupMul
import HandS.TryMany
import HandS.More
import PyProof.LongRange
import HandS.Zip
import HandS.Style
import PyProof.StrOps2
import HandS.ExcInit
import HandS.ExcField
import HandS.Deep
import HandS.ExcIs
import KE.GoesEnum
import HandS.SetFor
import HandS.Strs
import PyProof.ReprBulk
import PyProof.FitsInt
import PySem.Challenge.RW_guessedworlds_k53_whole_disks_by_own_mod
set_option Elab.async false
set_option linter.all false
set_option maxRecDepth 100000
set_option maxHeartbeats 4000000
/-! room in which no guard stands (repr may be asked), defs by such room, things that are frozen -/
namespace VD
open PySem PySem.Spec PyProof.Rows L2

/-- a list that is never written: the script, one that was frozen -/
def CL (K : PySem.W.Frag) (H : Hp) (a : Addr) (xs : List V) : Prop :=
  (∃ o, H a = some (.frz o (.lst xs))) ∨ ∃ (its : Array Value) (n : Nat), K.lookup a = some { cls := .type "list", data := .seq its n } ∧ its.size ≤ sizeLine ∧ Vals xs its.toList
theorem CL.sq {K : PySem.W.Frag} {H : Hp} {a : Addr} {xs : List V} (h : CL K H a xs) : SqL K H a xs := by
  rcases h with h | ⟨its, n, h1, h2, h3⟩
  · exact .inl (.inr h)
  · exact .inr ⟨_, its, n, h1, rfl, rfl, rfl, h2, h3⟩
/-- a list, as it stands -/
def LC (K : PySem.W.Frag) (H : Hp) (a : Addr) (xs : List V) : Prop := H a = some (.lst xs) ∨ CL K H a xs
theorem LC.sq {K : PySem.W.Frag} {H : Hp} {a : Addr} {xs : List V} (h : LC K H a xs) : SqL K H a xs := h.elim (fun h => .inl (.inl h)) CL.sq
section
variable {X : Cx} {pins : List (Addr × Obj)} {σ : L2.St} {H : Hp} {s : Shared} {l : Addr} {xs : List V}
theorem LC.at_ (I : Inv X pins σ H s) (h : LC X.K H l xs) : xs.length ≤ sizeLine ∧ ∃ (its : List Value) (n : Nat), Vals xs its ∧ xs.length = its.length ∧ s.heap.get? l = some { cls := .type "list", data := .seq its.toArray n } := by
  rcases h with h | ⟨o, h⟩ | ⟨its, n, h1, h2, h3⟩
  · exact I.lstM h
  · obtain ⟨_, z, its, n, r, e⟩ := (show ObjOk X.prog X.w H s.heap l (.frz o (.lst xs)) from I.hok l _ h)
    exact ⟨z, its, n, r, r.length, e⟩
  · have e := h3.length
    exact ⟨by rw [e]; simpa using h2, its.toList, n, h3, e, by simpa using I.kIn l _ h1⟩
def rCatC (K : PySem.W.Frag) : R2 := fun x y H Q => ∃ l b xs zs, x = .ref l ∧ y = .ref b ∧ LC K H l xs ∧ LC K H b zs ∧ xs.length + zs.length ≤ sizeLine ∧ ∀ p, H p = none → Q (.ref p) (upd H p (.lst (xs ++ zs)))
theorem op_catC : OpR X (binaryOp .Add) (rCatC X.K) := by
  intro pins s σ H x y v u Q I rx ry h
  obtain ⟨l, b, xs, zs, rfl, rfl, hx, hy, hz, q⟩ := h
  obtain rfl : v = Value.ref l := rx
  obtain rfl : u = Value.ref b := ry
  obtain ⟨_, its, n, r, hl, e⟩ := hx.at_ I
  obtain ⟨_, its2, n2, r2, hl2, e2⟩ := hy.at_ I
  refine PySem.P.add_list e e2 ?_ (by rw [List.size_toArray, List.size_toArray, ← hl, ← hl2]; exact hz)
  rw [show its.toArray ++ its2.toArray = (its ++ its2).toArray by simp]
  exact ⟨.ref _, _, I.lnew (t' := s.toks) (r.append r2) (by rw [List.length_append]; exact hz), rfl, q _ I.fresh⟩
end
structure RoomG (k : Nat) (A : Around) : Prop where
  r : Room k A
  g : A.guards = some []
section
variable {A : Around} {j k : Nat}
theorem RoomG.mono (h : RoomG k A) (l : j ≤ k) : RoomG j A := ⟨h.r.mono l, h.g⟩
theorem RoomG.units (h : RoomG k A) : A.units + 64 < cLine := h.r.units
theorem RoomG.units0 (h : RoomG k A) : A.units < cLine := h.r.units0
theorem RoomG.deeper (h : RoomG (k + 1) A) (env : Env) : RoomG k (A.deeper env) := ⟨h.r.deeper env, h.g⟩
theorem RoomG.make (h : RoomG (k + 1) A) (C : Addr) (us : List Value) : RoomG k (A.under (.builtin "type.__call__" ⟨.ref C :: us, []⟩)) := ⟨h.r.make C us [], by
  have e : (Code.builtin "type.__call__" ⟨.ref C :: us, []⟩).guards = [] := by simp [Code.guards, Code.isGuard, guardIds]
  show pushGuards (Code.builtin "type.__call__" ⟨.ref C :: us, []⟩).guards A.guards = some []
  rw [e, h.g]; rfl⟩
end
structure FnG (P : Program) (w : World) (K : PySem.W.Frag) (mg : Str → Option Value) (base : Heap) (CX : CXT) (k : Nat) (f : Addr) (fd : FuncData) (ps : List Str) (sp : Sp) : Prop where
  len : ∀ vs H Q E, sp vs H Q E → vs.length = ps.length
  go : ∀ (A : Around) (outer : List Env) (s : Shared) (H : Hp) (args : Args) (us : List Value) (vs : List V) (Q : VK) (E : XK), RoomG k A → Env0 P w K mg base A outer s H → BindsTo s fd args (ps.zip us) → Vals vs us → sp vs H Q E →
    codeAny (model P w) A (.call (.ref f) args) (CR CX outer P w H s Q E) s
section
variable {P : Program} {w : World} {K : PySem.W.Frag} {mg : Str → Option Value} {base : Heap} {CX : CXT}
theorem FnG.of {k : Nat} {f : Addr} {fd : FuncData} {ps : List Str} {sp : Sp} (F : FnOk P w K mg base CX k f fd ps sp) : FnG P w K mg base CX k f fd ps sp := ⟨F.len, fun A outer s H args us vs Q E hr => F.run A outer s H args us vs Q E hr.r⟩
/-- a def by its body -/
theorem fnG_of {k : Nat} {f : Addr} {nm qual : Str} {prm : Arguments} {bd : List Stmt} {scp : Scope} {dV kV doc pm cdv ct oc : Value} {an od : Option Addr} {osl : Array (Option Value)} {N ps : List Str} {sp : Sp}
    (look : K.lookup f = some ⟨oc, od, .func (PySem.W.fnOf nm qual prm bd scp dV kV doc pm an cdv ct), osl⟩) (cod : PySem.W.codeIn K cdv qual = true) (Sc : FnScope N ps scp) (len : ∀ vs H Q E, sp vs H Q E → vs.length = ps.length)
    (bod : ∀ (A : Around) (outer : List Env) (s : Shared) (H : Hp) (vs : List V) (Q : VK) (E : XK), RoomG k (A.deeper (envOfC qual scp s.heap.objs.size f cdv)) → sp vs H Q E →
      ∃ t, PSs (cxOf CX P w K mg base N qual scp f cdv A outer s H E) bd t ∧ t { nx := fun _ H' => Q .non H', rt := Q } (start N vs) H) : FnG P w K mg base CX (k + 1) f (PySem.W.fnOf nm qual prm bd scp dV kV doc pm an cdv ct) ps sp := by
  constructor
  · exact len
  intro A outer s H args us vs Q E room env0 bind rel want
  have KX : K.In s.heap := env0.mod.kin.keeps fun b o e => (env0.bs b o e).1
  have kinds : ∀ y ∈ ps.zip us, scp.names.lookup y.1 = some .local ∨ (scp.names.lookup y.1 = some .cell ∧ ((cellsFrom (s.heap.objs.size + 1) scp.names []).lookup y.1).isSome = true) := by
    rintro ⟨n, v⟩ hy
    rcases Sc.par n (List.of_mem_zip hy).1 with q | q
    · exact .inl q
    · exact .inr ⟨q, PySem.W.cellsFrom_some _ _ _ (.inl q)⟩
  refine codeAny_call_function room.r.depth (KX _ _ look) rfl Sc.co Sc.gen rfl (PySem.W.codeRec_of KX cod) (bind _ _ _ _ (wpAny_newFunctionEnv_cells Sc.kind kinds fun env he s1 x => ?_))
  subst he
  refine ⟨(env0.mod.nolimit.keeps fun b o e => (env0.bs b o e).1).keeps x.toInCall.keep, codeAny_func ?_⟩
  obtain ⟨t, ht, hq⟩ := bod A outer s H vs Q E (room.deeper _) want
  refine wpAny_mono (ht.run [] s1 (start N vs) H _ (inv_start Sc room.r.hd env0 (len _ _ _ _ want) rel x) hq) (fun fl s' ends => ?_) fun e s' ends => ends
  cases fl with
  | brk => obtain ⟨_, _, _, q⟩ := ends; exact q.elim
  | cont => obtain ⟨_, _, _, q⟩ := ends; exact q.elim
  | next => obtain ⟨σ', H', J, q⟩ := ends; exact ⟨.non, H', J.os, J.bare, J.base, J.hok, rfl, q⟩
  | ret u => obtain ⟨v, σ', H', J, rv, q⟩ := ends; exact ⟨v, H', J.os, J.bare, J.base, J.hok, rv, q⟩
theorem funG {x qual : Str} {st : Stmt} {f : Addr} {fd : FuncData} {N ps : List Str} {k : Nat} {sp : Sp} (F : Fun K x qual st f fd) (Sc : FnScope N ps (defScope st)) (len : ∀ vs H Q E, sp vs H Q E → vs.length = ps.length)
    (bod : ∀ (cdv : Value) (A : Around) (outer : List Env) (s : Shared) (H : Hp) (vs : List V) (Q : VK) (E : XK), RoomG k (A.deeper (envOfC qual (defScope st) s.heap.objs.size f cdv)) → sp vs H Q E →
      ∃ t, PSs (cxOf (L2.CX P w) P w K mg base N qual (defScope st) f cdv A outer s H E) (defBody st) t ∧ t { nx := fun _ H' => Q .non H', rt := Q } (start N vs) H) : FnG P w K mg base (L2.CX P w) (k + 1) f fd ps sp := by
  obtain ⟨oc, od, kV, doc, pm, an, cdv, ct, osl, rfl, lk, hcd⟩ := F.ex
  exact fnG_of lk hcd Sc len (bod cdv)
end
section
variable {X : Cx} {CX : CXT} {k : Nat} {f C : Addr} {fd : FuncData} {ps : List Str} {sp : Sp} {E : L2.St → XK} {x m : Str} {p pos apos : Pos} {e o : Expr} {es : List Expr} {ta : TE} {t : TA}
theorem run_G {pins : List (Addr × Obj)} {σ : L2.St} {H : Hp} {s : Shared} {Q : VK} {us : List Value} {vs : List V} (F : FnG X.prog X.w X.K X.mg X.base CX k f fd ps sp) (hr : RoomG k X.A) (hb : Binds X.K fd ps []) (hx : PassesAt CX X σ (E σ)) (I : Inv X pins σ H s) (r : Vals vs us)
    (h : sp vs H Q (E σ)) : wpAny (model X.prog X.w) X.A (call (.ref f) us) (EP X pins σ Q) X.xe s := by
  have b := hb s us I.kIn (by rw [List.append_nil, ← r.length]; exact F.len _ _ _ _ h)
  rw [List.append_nil] at b
  refine wpAny_call (codeAny_mono (F.go X.A X.stack s H ⟨us, []⟩ us vs Q (E σ) hr I.env0 b r h) fun res s' hq => ?_)
  match res, hq with
  | .error e, hq => exact hx pins H s e s' I hq
  | .ok (.ret u), hq => exact I.after hq
  | .ok .next, hq => exact False.elim hq
  | .ok .brk, hq => exact False.elim hq
  | .ok .cont, hq => exact False.elim hq
theorem pe_callG (F : FnG X.prog X.w X.K X.mg X.base CX k f fd ps sp) (hr : RoomG k X.A) (hg : Gl X x) (hm : X.mg x = some (.ref f)) (hk : PySem.W.keepIn X.K (.ref f) = true) (hb : Binds X.K fd ps []) (hx : ∀ σ, PassesAt CX X σ (E σ)) (ha : PA X (e :: es) t)
    (hdb : (x == ("__debug__" : Str)) = false := by decide) (he : starEach (e :: es) X.env = (false, eval e X.env) :: starEach es X.env := by rfl) (hpl : (backTo pos (starEach es X.env)).any (·.1) = false := by rfl) : PE X (.Call (.Name x p) (e :: es) [] pos) (tCallS sp E t) := by
  constructor
  intro pins s σ H Q I h
  refine wpAny_Call_Name_kw (ld_glob I hg hm ?_ hdb)
  exact PySem.W.callWith_K (h₀ := X.base) I.ok.mod.kin hk (thn (ha.run pos pins s σ H _ I h) fun us s1 ⟨vs, H1, I1, r, q⟩ => ⟨I1.kIn, run_G F hr hb (hx σ) I1 r q⟩) he hpl
theorem pe_callG0 (F : FnG X.prog X.w X.K X.mg X.base CX k f fd ps sp) (hr : RoomG k X.A) (hg : Gl X x) (hm : X.mg x = some (.ref f)) (hk : PySem.W.keepIn X.K (.ref f) = true) (hb : Binds X.K fd ps []) (hx : ∀ σ, PassesAt CX X σ (E σ))
    (hdb : (x == ("__debug__" : Str)) = false := by decide) : PE X (.Call (.Name x p) [] [] pos) (tCallS sp E tNil) := by
  constructor
  intro pins s σ H Q I h
  refine wpAny_Call_Name_kw (ld_glob I hg hm ?_ hdb)
  exact PySem.W.callWith_K0 I.kIn hk (run_G (us := []) F hr hb (hx σ) I .nil h)
/-- o.m(..), by one of several classes; an instance that is frozen, too -/
def InsAt (H : Hp) (a C dx : Addr) (fs : List (Str × V)) : Prop := H a = some (.ins C dx fs) ∨ ∃ ob, H a = some (.frz ob (.ins C dx fs))
theorem insAt_get {P : Program} {w : World} {H : Hp} {h : Heap} {a dx : Addr} {fs : List (Str × V)} (hok : HOk P w H h) (e : InsAt H a C dx fs) : ∃ mA, ObjM h a dx C mA ∧ (∀ f, RelO (fs.lookup f) (mA f)) ∧ PySem.Within mA (fs.map (·.1)) := by
  have z : ObjOk P w H h a (.ins C dx fs) := by
    rcases e with e | ⟨ob, e⟩
    · exact hok a _ e
    · exact (show ObjOk P w H h a (.frz ob (.ins C dx fs)) from hok a _ e).2
  obtain ⟨d, z, ne, ob, mA, n, r, q⟩ := z
  exact ⟨mA, ⟨ob, n, ne⟩, r, q⟩
structure MTab (X : Cx) (CX : CXT) (m : Str) (k : Nat) (E : L2.St → XK) (C f : Addr) (sp : Sp) : Prop where
  c : Cls X.K C
  hm : Meth X.K C m f
  go : ∃ (k' : Nat) (fd : FuncData) (ps : List Str), k' ≤ k ∧ FnG X.prog X.w X.K X.mg X.base CX k' f fd ps sp ∧ Binds X.K fd ps []
def tMethG (tab : List (Addr × Sp)) (m : Str) (E : L2.St → XK) (ta : TE) (t : TA) : TE := fun σ H Q => ta σ H fun x H1 => ∃ a C dx fs sp, x = .ref a ∧ InsAt H1 a C dx fs ∧ fs.lookup m = none ∧ (C, sp) ∈ tab ∧ t σ H1 fun vs H2 => sp (x :: vs) H2 Q (E σ)
theorem getmethG {pins : List (Addr × Obj)} {σ : L2.St} {H : Hp} {s : Shared} {a dx g : Addr} {fs : List (Str × V)} {A : Around} {E : Value → Shared → Prop} {pl : Sem Bool} {Q : Value × List Value → Shared → Prop} (I : Inv X pins σ H s) (e : InsAt H a C dx fs) (c : Cls X.K C) (k : Meth X.K C m g)
    (l : fs.lookup m = none) (h : Q (.ref g, [.ref a]) s) : wpAny (model X.prog X.w) A (getMethod (.ref a) m pl) Q E s := by
  obtain ⟨mA, O, r, _⟩ := insAt_get I.hok e
  exact get_meth I.kIn O (c.get m) k.at_ k.fn (RelO.none_of (by rw [← l]; exact r m)) h
theorem pe_methG {tab : List (Addr × Sp)} {pl : Sem Bool} (he : PE X o ta) (ht0 : ∀ C sp, (C, sp) ∈ tab → ∃ f, MTab X CX m k E C f sp) (hr : RoomG k X.A) (hx : ∀ σ, PassesAt CX X σ (E σ)) (ha : PA X (e :: es) t)
    (hst : starEach (e :: es) X.env = (false, eval e X.env) :: starEach es X.env := by rfl) (hpl : (backTo pos (starEach es X.env)).any (·.1) = false := by rfl)
    (ht : eval (.Call (.Attribute o m apos) (e :: es) [] pos) X.env = (do
      let ov ← eval o X.env
      standAt apos.atName
      let (f, first) ← holding [ov] (getMethod ov m pl)
      callWith pos f first (backTo pos (starEach (e :: es) X.env)) (backToKw pos (keywordEach [] X.env))) := by rfl) : PE X (.Call (.Attribute o m apos) (e :: es) [] pos) (tMethG tab m E ta t) := by
  constructor
  intro pins s σ H Q I h
  refine PySem.W.methodCall_KW (pl := pl) (thn (he.run pins s σ H _ I h) fun u s1 ⟨x, H1, I1, rx, a, C, dx, fs, sp, ex, ea, l, hmem, q⟩ => ?_) ht
  subst ex
  obtain rfl : u = Value.ref a := rx
  obtain ⟨f, M⟩ := ht0 C sp hmem
  obtain ⟨k', fd, ps, hk, F, hb⟩ := M.go
  refine getmethG I1 ea M.c M.hm l ?_
  refine PySem.W.callWith_K (h₀ := X.base) (first := [.ref a]) I1.ok.mod.kin M.hm.kp (thn (ha.run pos pins s1 σ H1 _ I1 q) fun us s2 ⟨vs, H2, I2, r, q2⟩ => ⟨I2.kIn, ?_⟩) hst hpl
  exact run_G (us := .ref a :: us) (vs := .ref a :: vs) F (hr.mono hk) hb (hx σ) I2 (.cons rfl r) q2
theorem pe_methG0 {tab : List (Addr × Sp)} {pl : Sem Bool} (he : PE X o ta) (ht0 : ∀ C sp, (C, sp) ∈ tab → ∃ f, MTab X CX m k E C f sp) (hr : RoomG k X.A) (hx : ∀ σ, PassesAt CX X σ (E σ))
    (ht : eval (.Call (.Attribute o m apos) [] [] pos) X.env = (do
      let ov ← eval o X.env
      standAt apos.atName
      let (f, first) ← holding [ov] (getMethod ov m pl)
      callWith pos f first (backTo pos (starEach [] X.env)) (backToKw pos (keywordEach [] X.env))) := by rfl) : PE X (.Call (.Attribute o m apos) [] [] pos) (tMethG tab m E ta tNil) := by
  constructor
  intro pins s σ H Q I h
  refine PySem.W.methodCall_KW (pl := pl) (thn (he.run pins s σ H _ I h) fun u s1 ⟨x, H1, I1, rx, a, C, dx, fs, sp, ex, ea, l, hmem, q⟩ => ?_) ht
  subst ex
  obtain rfl : u = Value.ref a := rx
  obtain ⟨f, M⟩ := ht0 C sp hmem
  obtain ⟨k', fd, ps, hk, F, hb⟩ := M.go
  refine getmethG I1 ea M.c M.hm l ?_
  exact PySem.W.callWith_K0 (first := [.ref a]) I1.kIn M.hm.kp (run_G (us := [.ref a]) (vs := [.ref a]) F (hr.mono hk) hb (hx σ) I1 (.cons rfl .nil) q)
/-- e.f of an instance, frozen or not -/
def tFldG (K : PySem.W.Frag) (cs : List Addr) (ta : TE) (f : Str) : TE := fun σ H Q => ta σ H fun x H1 => ∃ a C dx fs v, x = .ref a ∧ InsAt H1 a C dx fs ∧ C ∈ cs ∧ fs.lookup f = some v ∧ Q v H1
theorem pe_fldG {cs : List Addr} {f : Str} (he : PE X e ta) (hc : ∀ C ∈ cs, Cls X.K C ∧ NoAttr X.K C f) (hb : attributeBase e f X.env (eval e X.env) = eval e X.env := by rfl) : PE X (.Attribute e f pos) (tFldG X.K cs ta f) := by
  constructor
  intro pins s σ H Q I h
  refine attr_of hb (thn (he.run pins s σ H _ I h) fun u s1 ⟨x, H1, I1, rx, a, C, dx, fs, v, ex, ea, hm, l, q⟩ => ?_)
  subst ex
  obtain rfl : u = Value.ref a := rx
  obtain ⟨c, n⟩ := hc C hm
  obtain ⟨mA, O, r, _⟩ := insAt_get I1.hok ea
  obtain ⟨u2, hu, ru⟩ := RelO.some_of (v := v) (o := mA f) (by rw [← l]; exact r f)
  exact get_map I1.kIn O (c.get f) c.hd n hu (handed_of ru) ⟨v, H1, I1.tok _, ru, q⟩
/-! C(..) -/
theorem run_mkG {pins : List (Addr × Obj)} {σ : L2.St} {H : Hp} {s : Shared} {Q : VK} {us : List Value} {vs : List V} (M : Mk X.K C f) (F : FnG X.prog X.w X.K X.mg X.base CX k f fd ps sp) (hr : RoomG (k + 1) X.A) (hb : Binds X.K fd ps []) (hx : PassesAt CX X σ (E σ)) (I : Inv X pins σ H s)
    (r : Vals vs us) (h : ∀ x dx, H x = none → H dx = none → dx ≠ x → sp (.ref x :: vs) (upd (upd H dx (.own x)) x (.ins C dx [])) (fun v H2 => v = .non ∧ Q (.ref x) H2) (E σ)) : wpAny (model X.prog X.w) X.A (call (.ref C) us) (EP X pins σ Q) X.xe s := by
  let n := s.heap.objs.size
  have want := h (n + 1) n (I.hok.fresh (Nat.le_succ _)) (I.hok.fresh (Nat.le_refl _)) (Nat.ne_of_lt (Nat.lt_succ_self _))
  have I2 := Inv.made (C := C) I
  have r2 : Vals (V.ref (n + 1) :: vs) (Value.ref (n + 1) :: us) := .cons rfl r
  have b := hb _ (Value.ref (n + 1) :: us) I2.kIn (by rw [List.append_nil, ← r2.length]; exact F.len _ _ _ _ want)
  rw [List.append_nil] at b
  refine wpAny_call (make_map (f := f) I.kIn M.makes M.init (beq_iff_eq.mp M.fn) (codeAny_mono (F.go _ X.stack _ _ ⟨Value.ref (n + 1) :: us, []⟩ _ _ _ (E σ) (hr.make C us) (I2.env0.make C us []) b r2 want) fun res s' hq => ?_))
  match res, hq with
  | .error e, hq => exact hx pins _ _ e s' I2 hq
  | .ok (.ret u), hq =>
    obtain ⟨v, H', I3, rv, ev, q3⟩ := I2.after hq
    subst ev
    exact ⟨rv, ⟨V.ref (n + 1), H', I3, rfl, q3⟩⟩
  | .ok .next, hq => exact False.elim hq
  | .ok .brk, hq => exact False.elim hq
  | .ok .cont, hq => exact False.elim hq
def tMakeG (C : Addr) (sp : Sp) (E : L2.St → XK) (t : TA) : TE := fun σ H Q => t σ H fun vs H1 => ∀ x dx, H1 x = none → H1 dx = none → dx ≠ x → sp (.ref x :: vs) (upd (upd H1 dx (.own x)) x (.ins C dx [])) (fun v H2 => v = .non ∧ Q (.ref x) H2) (E σ)
theorem pe_makeG (M : Mk X.K C f) (F : FnG X.prog X.w X.K X.mg X.base CX k f fd ps sp) (hr : RoomG (k + 1) X.A) (hg : Gl X x) (hm : X.mg x = some (.ref C)) (hb : Binds X.K fd ps []) (hx : ∀ σ, PassesAt CX X σ (E σ)) (ha : PA X (e :: es) t)
    (hdb : (x == ("__debug__" : Str)) = false := by decide) (he : starEach (e :: es) X.env = (false, eval e X.env) :: starEach es X.env := by rfl) (hpl : (backTo pos (starEach es X.env)).any (·.1) = false := by rfl) : PE X (.Call (.Name x p) (e :: es) [] pos) (tMakeG C sp E t) := by
  constructor
  intro pins s σ H Q I h
  refine wpAny_Call_Name_kw (ld_glob I hg hm ?_ hdb)
  exact PySem.W.callWith_K (h₀ := X.base) I.ok.mod.kin M.kp (thn (ha.run pos pins s σ H _ I h) fun us s1 ⟨vs, H1, I1, r, q⟩ => ⟨I1.kIn, run_mkG M F hr hb (hx σ) I1 r q⟩) he hpl
theorem pe_makeG0 (M : Mk X.K C f) (F : FnG X.prog X.w X.K X.mg X.base CX k f fd ps sp) (hr : RoomG (k + 1) X.A) (hg : Gl X x) (hm : X.mg x = some (.ref C)) (hb : Binds X.K fd ps []) (hx : ∀ σ, PassesAt CX X σ (E σ))
    (hdb : (x == ("__debug__" : Str)) = false := by decide) : PE X (.Call (.Name x p) [] [] pos) (tMakeG C sp E tNil) := by
  constructor
  intro pins s σ H Q I h
  refine wpAny_Call_Name_kw (ld_glob I hg hm ?_ hdb)
  exact PySem.W.callWith_K0 I.kIn M.kp (run_mkG (us := []) M F hr hb (hx σ) I .nil h)
end
/-! ### a thing is frozen: it stays as it is from here on -/
def canFrz : HO → Bool
  | .lst _ | .dK _ | .ins _ _ _ => true
  | _ => false
section
variable {X : Cx} {pins : List (Addr × Obj)} {σ : L2.St} {H : Hp} {s : Shared} {a : Addr} {u : HO}
theorem Inv.freeze (I : Inv X pins σ H s) (e : H a = some u) (hu : canFrz u = true) : ∃ o, Inv X pins σ (upd H a (.frz o u)) s := by
  obtain ⟨o, ho⟩ := objOk_get (I.hok a u e)
  have ne : ∀ b z, H b = some z → canFrz z = false → b ≠ a := fun b z hb hz q => by
    subst q; rw [e] at hb; cases hb; rw [hu] at hz; cases hz
  have own : ∀ b c, H b = some (.own c) → upd H a (.frz o u) b = some (.own c) := fun b c hb => by rw [upd_ne (ne b _ hb rfl)]; exact hb
  have tup : ∀ b c, H b = some (.tup c) → upd H a (.frz o u) b = some (.tup c) := fun b c hb => by rw [upd_ne (ne b _ hb rfl)]; exact hb
  have off : ∀ b, H b = none → upd H a (.frz o u) b = none := fun b hb => by rw [upd_ne (fun q => by subst q; rw [e] at hb; cases hb)]; exact hb
  refine ⟨o, I.ok, I.os, I.bare, ⟨I.base.keep, I.base.slot, fun b ob q n hx => off b (I.base.free b ob q n hx), I.base.there, fun b xs q => tup b xs (I.base.tups b xs q), fun b ob z q => ?_, fun b ps q => ?_⟩, I.loc, I.cell, off _ I.free, fun x c hx => off _ (I.freeC x c hx), fun p hp => ?_, fun b z hz => ?_, I.len⟩
  · have h1 := I.base.frzs b ob z q
    rw [upd_ne (ne b _ h1 rfl)]; exact h1
  · obtain ⟨more, h1⟩ := I.base.tbls b ps q
    exact ⟨more, by rw [upd_ne (ne b _ h1 rfl)]; exact h1⟩
  · obtain ⟨h1, h2, h3⟩ := I.pin p hp
    exact ⟨h1, off _ h2, h3⟩
  · by_cases hb : b = a
    · subst hb
      rw [upd_same] at hz
      cases hz
      refine ⟨ho, (I.hok b u e).stay (fun _ _ _ h => h) (fun c hc => own c b hc) tup⟩
    · rw [upd_ne hb] at hz
      exact (I.hok b z hz).stay (fun _ _ _ h => h) (fun c hc => own c b hc) tup
/-- an expression whose value is frozen behind it -/
theorem pe_frz {x : Expr} {t : TE} (h : PE X x t) : PE X x (fun σ H Q => t σ H fun v H1 => Q v H1 ∨ ∃ a u, v = .ref a ∧ H1 a = some u ∧ canFrz u = true ∧ ∀ o, Q v (upd H1 a (.frz o u))) := by
  constructor
  intro pins s σ H Q I q
  refine thn (h.run pins s σ H _ I q) fun u s1 ⟨v, H1, I1, r, z⟩ => ?_
  rcases z with z | ⟨a, w, rfl, e, hu, z⟩
  · exact ⟨v, H1, I1, r, z⟩
  · obtain ⟨o, I2⟩ := Inv.freeze I1 e hu
    exact ⟨_, _, I2, r, z o⟩
end
/-! ### the end of a law -/
section
theorem lawG {P : Program} {w : World} {K : PySem.W.Frag} {mg mb : Str → Option Value} {CX : CXT} {k : Nat} {fa a : Addr} {fd : FuncData} {x : Str} {sp : Sp} {s : Shared} {vs : List Value} {ns : List Int} (KX : K.In s.heap) (hns : s.heap.Ns mainGlobals mg) (hb : s.heap.Ns builtinsNs mb)
    (hbb : ∀ x : Str, x ≠ "__name__" → mb x = bootBuiltins x) (hlim : s.heap.NoLimit) (hg : s.gens = #[]) (ha : s.heap.get? a = some { cls := .type "list", data := .seq vs.toArray }) (hi : IntsAre vs ns) (hl : ns.length ≤ sizeLine) (hr : RoomG k callerA)
    (F : ∀ base : Heap, K.In base → base.Ns mainGlobals mg → FnG P w K mg base CX k fa fd [x] sp) (hbind : ∀ (s : Shared) (u : Value), BindsTo s fd ⟨[u], []⟩ [(x, u)]) (hsp : ∀ H : Hp, CL K H a (ns.map V.int) → sp [.ref a] H (fun v _ => v = .bl true) fun _ _ _ => False)
    (hCX : ∀ H e s', CX [] H s (fun _ _ _ => False) e s' → False) : codeAny (model P w) callerA (.call (.ref fa) ⟨[.ref a], []⟩) (fun r s' => r = .ok (.ret (.bool true)) ∧ OldK s.heap s'.heap ∧ s'.os = s.os ∧ AllBare s'.gens) s := by
  have rv := vals_ints hi
  have go : ∀ H : Hp, Only H → CL K H a (ns.map V.int) → HOk P w H s.heap → (∀ b, H b ≠ none → b = a) → (H a ≠ none → K.lookup a = none) → codeAny (model P w) callerA (.call (.ref fa) ⟨[.ref a], []⟩) (fun r s' => r = .ok (.ret (.bool true)) ∧ OldK s.heap s'.heap ∧ s'.os = s.os ∧ AllBare s'.gens) s := by
    intro H hO hS hok hA hK
    have alone : ∀ {b : Addr} {u : HO}, H b = some u → b = a := fun {b u} q => hA b (by rw [q]; exact Option.some_ne_none u)
    have stays : ∀ {b : Addr} {o : Obj}, s.heap.get? b = some o → H b = none → (hidT s.heap H).get? b = some o := fun e n => hidT_get e n
    have dictOff : ∀ {b : Addr} {o : Obj} {es : Array DictEntry} {ep : Nat}, s.heap.get? b = some o → o.data = .dict es ep → H b = none := fun {b o es ep} e d => by
      cases q : H b with
      | none => rfl
      | some u =>
        obtain rfl := alone q
        rw [ha] at e
        cases e
        cases (show Data.seq vs.toArray _ = Data.dict es ep from d)
    have nsOf : ∀ {b : Addr} {m : Str → Option Value}, s.heap.Ns b m → (hidT s.heap H).Ns b m := fun {b m} ⟨o, es, ep, e, d, r⟩ => ⟨o, es, ep, stays e (dictOff e d), d, r⟩
    have hKb : K.In (hidT s.heap H) := fun b o e => by
      refine stays (KX b o e) ?_
      cases q : H b with
      | none => rfl
      | some u =>
        obtain rfl := alone q
        have n := hK (by rw [q]; exact Option.some_ne_none u)
        rw [n] at e
        cases e
    have hM : Mod K mg (hidT s.heap H) := ⟨hKb, nsOf hns, ⟨mb, nsOf hb, hbb⟩, let ⟨mc, h1, h2⟩ := hlim; ⟨mc, nsOf h1, h2⟩⟩
    have e0 : Env0 P w K mg (hidT s.heap H) callerA [] s H := ⟨rfl, hM, fun b o e => of_hidT e, Nat.le_of_eq (hidT_size _ _), trivial, fun b hb => absurd hb (by intro z; cases z), hok, .of_eq hg⟩
    refine codeAny_mono ((F _ hKb (nsOf hns)).go callerA [] s H ⟨[.ref a], []⟩ [.ref a] [.ref a] _ _ hr e0 (hbind s (.ref a)) (.cons rfl .nil) (hsp H hS)) fun r s' h => ?_
    match r, h with
    | .error e, h => exact (hCX H e s' h).elim
    | .ok .next, h => exact False.elim h
    | .ok .brk, h => exact False.elim h
    | .ok .cont, h => exact False.elim h
    | .ok (.ret u), h =>
      obtain ⟨v, H', os, bare, un, hok', r', q⟩ := h
      obtain rfl : v = .bl true := q
      obtain rfl : u = Value.bool true := r'
      refine ⟨rfl, OldK.of_keep fun b o e => ?_, os, bare⟩
      rcases hO b with z | ⟨ob, xs, z⟩
      · exact un.keep b o e z (fun z => by cases z) (fun z => by cases z)
      · have e1 := (hok b _ z).1
        have e2 := (hok' b _ (un.frzs b ob _ z)).1
        rw [e] at e1
        cases e1
        exact e2
  cases hk : K.lookup a with
  | some o =>
    have e := KX a o hk
    rw [ha] at e
    cases e
    exact go (fun _ => none) (fun _ => .inl rfl) (.inr ⟨vs.toArray, _, hk, by rw [List.size_toArray, hi.length]; exact hl, by simpa using rv⟩) (fun b u z => by cases z) (fun b z => absurd rfl z) fun z => absurd rfl z
  | none =>
    let ob : Obj := { cls := .type "list", data := .seq vs.toArray }
    let H : Hp := fun b => if b = a then some (.frz ob (.lst (ns.map V.int))) else none
    have hsame : H a = some (.frz ob (.lst (ns.map V.int))) := if_pos rfl
    have hoff : ∀ b, b ≠ a → H b = none := fun b q => if_neg q
    refine go H (fun b => ?_) (.inl ⟨ob, hsame⟩) (fun b u z => ?_) (fun b z => ?_) fun _ => hk
    · by_cases q : b = a
      · exact .inr ⟨ob, _, by rw [q]; exact hsame⟩
      · exact .inl (hoff b q)
    · by_cases q : b = a
      · subst q
        rw [hsame] at z
        cases z
        exact ⟨ha, by rw [List.length_map]; exact hl, vs, _, rv, ha⟩
      · rw [hoff b q] at z
        cases z
    · by_cases q : b = a
      · exact q
      · exact absurd (hoff b q) z
theorem walkG {l : PySem.W.OpenLaw} {n k : Nat} {q : Program} {loose : List Str} {XP : (Str → Option Value) → Heap → Prop} {YP : World → Heap → Prop} {d : DefRec} {K : Params → PySem.W.Frag} {CX : World → CXT} {sp : World → Sp} {x : Str} (hn : l.most = some n) (hn2 : n ≤ sizeLine)
    (hdf : d.params.defaults = []) (hr : RoomG k callerA) (hY : ∀ (w : World) (h : Heap), YP w h → (K w.params).In h)
    (F : ∀ (w : World) (mg : Str → Option Value) (fa : Addr) (h : Heap), (K w.params).In h → h.Ns mainGlobals mg → mg d.name = some (.ref fa) → ∃ fd : FuncData, (∀ (s : Shared) (u : Value), BindsTo s fd ⟨[u], []⟩ [(x, u)]) ∧
        ∀ base : Heap, (K w.params).In base → base.Ns mainGlobals mg → FnG l.prog w (K w.params) mg base (CX w) k fa fd [x] (sp w))
    (hsp : ∀ (w : World) (H : Hp) (a : Addr) (ns : List Int), ns.length ≤ n → CL (K w.params) H a (ns.map V.int) → sp w [.ref a] H (fun v _ => v = .bl true) fun _ _ _ => False)
    (hCX : ∀ (w : World) (H : Hp) (s : Shared) (e : Value) (s' : Shared), CX w [] H s (fun _ _ _ => False) e s' → False) : PySem.W.WalkO q loose XP YP l.row.toRowW d [] (fun f vs => PySem.call f vs) := by
  refine Att.attach_call hn hdf fun w s₀ s₁ mg mb fa o pm cd doc a vs ns G Y ho hd hcd hmg hobj hints hlen hg => ?_
  obtain ⟨fd, hb, hF⟩ := F w mg fa _ (hY w _ Y) G.T.g hmg
  exact lawG (hY w _ Y) G.T.g G.T.b G.T.builtins G.T.nolimit hg hobj hints (Nat.le_trans hlen hn2) hr hF hb (fun H hS => hsp w H a ns hlen hS) fun H e s' => hCX w H s₁ e s'
end
/-! ### range of any size -/
section
theorem turn_long {P : Program} {w : World} {K : PySem.W.Frag} {tg : Expr} (it : Addr) (lo : Int) (n : Nat) : Turn P w K tg (Itr lo n) [it] it (fun i h => IsLongIter h it (lo + (i : Nat) * 1) ((n : Int) - (i : Nat)) 1) := by
  have one : ∀ b ∈ [it], b = it := fun b hb => by simpa using hb
  refine ⟨by simp, fun i h st b hb => ?_, fun i h h' st k => k it (by simp) _ st, ?_, ?_, fun _ _ _ _ _ st h => wpAny_pyIter_longiter st h⟩
  · obtain rfl := one b hb
    refine ⟨_, st, fun v z => ?_⟩
    cases (show Data.fields _ = Data.cell v from z)
  · intro X hP hw hK hc i pins s σ H E I hf st hg
    subst hP hw hK
    obtain ⟨f0, f1, f2, f3, f4, f5⟩ := hf it (by simp)
    have hg' : i < n := hg
    refine wpAny_pyNext_long_item st (by omega) fun h' st' sb => ?_
    have I1 : Inv X pins σ H { s with heap := h', toks := s.toks + 1 } := I.turned (fun b o hb e => (sb.2 b hb).trans e) f0 f1 f3 f4 f5
    have e1 : lo + (i : Nat) * 1 + 1 = lo + ((i + 1 : Nat) : Int) * 1 := by omega
    have e2 : (n : Int) - (i : Nat) - 1 = (n : Int) - ((i + 1 : Nat) : Int) := by omega
    rw [e1, e2] at st'
    refine ⟨_, rfl, go_of (s := { s with heap := h', toks := s.toks + 1 }) (n := "longrange_iterator") st' rfl rfl (by decide) ⟨.int (lo + i), H, I1, ⟨s.toks, ?_⟩, ⟨rfl, rfl⟩, st', fun b hb => (hf b hb).1⟩⟩
    rw [Int.mul_one]
  · intro X hP hw hK hc i pins s σ H E I hf st hg
    subst hP hw hK
    obtain ⟨f0, f1, f2, f3, f4, f5⟩ := hf it (by simp)
    exact wpAny_pyNext_long_end (I.ok.hd hc) st (by have : n ≤ i := hg; omega) fun h' eb => ⟨rfl, I.turned (t' := s.toks) (fun b o hb e => eb b o hb e) f0 f1 f3 f4 f5⟩
variable {X : Cx} {tg : Expr}
theorem range_itA {pins : List (Addr × Obj)} {σ : L2.St} {H : Hp} {s : Shared} {R : It → Hp → Prop} {E : Value → Shared → Prop} {lo hi : Int} {t u v : Tok} {tk : Nat} (I : Inv X pins σ H s) (q : R (Itr lo (hi - lo).toNat) H) :
    wpAny (model X.prog X.w) X.A (pyIter (.ref s.heap.objs.size)) (PIE X pins σ tg R) E { s with heap := s.heap.push { cls := .type "range", data := .fields #[.int lo t, .int hi u, .int 1 v] }, toks := tk } := by
  let g := s.heap.push { cls := .type "range", data := .fields #[.int lo t, .int hi u, .int 1 v] }
  have I1 : Inv X pins σ H { s with heap := g, toks := tk } := I.kept fun b o e => Heap.get?_push_of_some _ e
  have e1 : lo + ((0 : Nat) : Int) * 1 = lo := by simp
  have e2 : (((hi - lo).toNat : Nat) : Int) - ((0 : Nat) : Int) = Builtin.Range.rangeSize lo hi 1 := by rw [rangeSize_one]; split <;> omega
  have fresh : ∀ b ∈ [g.objs.size], FpOk X pins H b := fun b hb => by
    obtain rfl : b = g.objs.size := by simpa using hb
    exact I1.fpOk (Nat.le_refl _) (I1.hok.fresh (Nat.le_refl _))
  cases hs : Builtin.Range.small lo hi 1 with
  | true =>
    refine wpAny_pyIter_range (IsRange.new ..) hs ⟨g.objs.size, [g.objs.size], _, _, H, rfl, I1.kept (t' := tk) fun b o e => Heap.get?_push_of_some _ e, turn_range _ lo (hi - lo).toNat, ?_, fresh, q⟩
    show IsRangeIter _ _ (lo + ((0 : Nat) : Int) * 1) ((((hi - lo).toNat : Nat) : Int) - ((0 : Nat) : Int)) 1
    rw [e1, e2]
    exact Heap.get?_push_size _ rfl
  | false =>
    refine wpAny_pyIter_longrange (IsRange.new ..) hs ⟨g.objs.size, [g.objs.size], _, _, H, rfl, I1.kept (t' := tk) fun b o e => Heap.get?_push_of_some _ e, turn_long _ lo (hi - lo).toNat, ?_, fresh, q⟩
    show IsLongIter _ _ (lo + ((0 : Nat) : Int) * 1) ((((hi - lo).toNat : Nat) : Int) - ((0 : Nat) : Int)) 1
    rw [e1, e2]
    exact Heap.get?_push_size _ rfl
def iRngA1 (ta : TA) : TI := fun σ H R => ta σ H fun vs H1 => ∃ j : Int, vs = [.int j] ∧ R (Itr 0 j.toNat) H1
def iRngA2 (ta : TA) : TI := fun σ H R => ta σ H fun vs H1 => ∃ i j : Int, vs = [.int i, .int j] ∧ R (Itr i (j - i).toNat) H1
theorem pi_rangeA1 {a : Expr} {ta : TA} {p pos : Pos} (hg : Gl X "range") (hm : X.mg "range" = none) (ha : PA X [a] ta) (hs : starEach [a] X.env = [(false, eval a X.env)] := by rfl) : PI X tg (.Call (.Name "range" p) [a] [] pos) (iRngA1 ta) := by
  constructor
  intro pins s σ H R I h
  refine Call_ (ld_blt I hg hm boot_range (PyProof.Rows.callWith_type1 (thn (ha.run pos pins s σ H _ I h) fun us s1 ⟨vs, H1, I1, r1, j, e, q⟩ => ?_) hs rfl))
  subst e
  cases r1 with
  | cons r rr =>
    cases rr
    obtain ⟨t, rfl⟩ := r
    exact call_range_1 (range_itA I1 (by simpa using q))
theorem pi_rangeA2 {a b : Expr} {ta : TA} {p pos : Pos} (hg : Gl X "range") (hm : X.mg "range" = none) (ha : PA X [a, b] ta) (hs : starEach [a, b] X.env = [(false, eval a X.env), (false, eval b X.env)] := by rfl) (hs2 : starEach [b] X.env = [(false, eval b X.env)] := by rfl) :
    PI X tg (.Call (.Name "range" p) [a, b] [] pos) (iRngA2 ta) := by
  constructor
  intro pins s σ H R I h
  refine Call_ (ld_blt I hg hm boot_range (PyProof.Rows.callWith_type1 (thn (ha.run pos pins s σ H _ I h) fun us s1 ⟨vs, H1, I1, r1, i, j, e, q⟩ => ?_) (by rw [hs, hs2]) (by rw [hs2]; rfl)))
  subst e
  cases r1 with
  | cons r rr =>
    cases rr with
    | cons r' rr =>
      cases rr
      obtain ⟨t, rfl⟩ := r
      obtain ⟨t', rfl⟩ := r'
      exact call_range_2 (range_itA I1 q)
end
end VD

/-! data by value: tuples are plain data, lists and instances stand in a store -/
namespace VD
open PySem PySem.Spec PyProof.Rows L2

inductive Dv where
  | non | bl (b : Bool) | int (i : Int) | str (x : Str) | ty (n : String) | ref (a : Addr) | tup (ds : List Dv) | rol (ds : List Dv)
  /-- a dict by value, an instance by value -/
  | rod (ks : List Key) (ds : List Dv) | obj (C : Addr) (ns : List Str) (ds : List Dv)
instance : Inhabited Dv := ⟨.non⟩

/-- what stands at a stored address -/
inductive MO where
  | lst (ds : List Dv) | dK (kvs : List (Key × Dv)) | ins (C dx : Addr) (fs : List (Str × Dv)) | xd (fs : List (Str × Dv))
abbrev Sto := Addr → Option MO
abbrev Rho := List (Option Dv)
def put (S : Sto) (a : Addr) (m : MO) : Sto := fun b => if b = a then some m else S b
theorem put_same {S : Sto} {a : Addr} {m : MO} : put S a m a = some m := by unfold put; rw [if_pos rfl]
theorem put_ne {S : Sto} {a b : Addr} {m : MO} (h : b ≠ a) : put S a m b = S b := by unfold put; rw [if_neg h]
theorem put_put {S : Sto} {a : Addr} {m n : MO} : put (put S a m) a n = put S a n := by
  funext b; unfold put; split <;> rfl
theorem put_comm {S : Sto} {a b : Addr} {m n : MO} (h : a ≠ b) : put (put S a m) b n = put (put S b n) a m := by
  funext c; unfold put; by_cases h1 : c = b <;> by_cases h2 : c = a <;> simp [h1, h2] <;> simp_all
theorem put_self {S : Sto} {a : Addr} {m : MO} (h : S a = some m) : put S a m = S := by
  funext b; unfold put; split
  · rename_i e; rw [e, h]
  · rfl
theorem ne_of {S : Sto} {a b : Addr} {m : MO} (h : S a = some m) (h' : S b = none) : a ≠ b := by
  intro e; rw [e, h'] at h; cases h
theorem ne_of' {S : Sto} {a b : Addr} {m : MO} (h : S a = some m) (h' : S b = none) : b ≠ a := (ne_of h h').symm
/-- less is known -/
def Sub (S T : Sto) : Prop := ∀ a m, S a = some m → T a = some m
theorem Sub.refl (S : Sto) : Sub S S := fun _ _ h => h
theorem Sub.trans {S T U : Sto} (h : Sub S T) (g : Sub T U) : Sub S U := fun a m e => g a m (h a m e)
theorem Sub.new {S : Sto} {a : Addr} {m : MO} (h : S a = none) : Sub S (put S a m) := fun b n e => by
  rw [put_ne (ne_of e h)]; exact e
theorem Sub.put {S T : Sto} {a : Addr} {m : MO} (h : Sub S T) : Sub (put S a m) (put T a m) := fun b n e => by
  unfold VD.put at e ⊢
  split
  · rename_i q; rw [if_pos q] at e; exact e
  · rename_i q; rw [if_neg q] at e; exact h _ _ e

/-- a store without the object at p -/
def rm (S : Sto) (p : Addr) : Sto := fun b => if b = p then none else S b
theorem rm_same {S : Sto} {p : Addr} : rm S p p = none := if_pos rfl
theorem rm_ne {S : Sto} {p b : Addr} (h : b ≠ p) : rm S p b = S b := if_neg h
theorem rm_sub (S : Sto) (p : Addr) : Sub (rm S p) S := fun a m e => by
  unfold rm at e
  split at e
  · cases e
  · exact e
theorem rm_put {S : Sto} {p : Addr} {m : MO} (h : S p = none) : rm (put S p m) p = S := by
  funext b
  unfold rm put
  split
  · rename_i e; rw [e, h]
  · rfl
section
variable (K : PySem.W.Frag) (H : Hp)
mutual
inductive Rep : V → Dv → Prop
  | non : Rep .non .non
  | bl (b : Bool) : Rep (.bl b) (.bl b)
  | int (i : Int) : Rep (.int i) (.int i)
  | str (x : Str) : Rep (.str x) (.str x)
  | ty (n : String) : Rep (.ty n) (.ty n)
  | ref (a : Addr) : Rep (.ref a) (.ref a)
  | tup {a : Addr} {xs : List V} {ds : List Dv} : SqT K H a xs → RepL xs ds → Rep (.ref a) (.tup ds)
  | rol {a : Addr} {xs : List V} {ds : List Dv} : CL K H a xs → RepL xs ds → Rep (.ref a) (.rol ds)
  | rod {a : Addr} {o : Obj} {ks : List Key} {vs : List V} {ds : List Dv} : H a = some (.frz o (.dK (ks.zip vs))) → ks.length = vs.length → RepL vs ds → Rep (.ref a) (.rod ks ds)
  | obj {a C dx : Addr} {o : Obj} {ns : List Str} {vs : List V} {ds : List Dv} : H a = some (.frz o (.ins C dx (ns.zip vs))) → ns.length = vs.length → RepL vs ds → Rep (.ref a) (.obj C ns ds)
inductive RepL : List V → List Dv → Prop
  | nil : RepL [] []
  | cons {v : V} {vs : List V} {d : Dv} {ds : List Dv} : Rep v d → RepL vs ds → RepL (v :: vs) (d :: ds)
end
end
section
variable {K : PySem.W.Frag} {H H' H1 H2 : Hp}
/-- tuples stay -/
structure Tk (K : PySem.W.Frag) (H H' : Hp) : Prop where
  t : ∀ a xs, SqT K H a xs → SqT K H' a xs
  c : ∀ a xs, CL K H a xs → CL K H' a xs
  f : ∀ a o u, H a = some (.frz o u) → H' a = some (.frz o u)
theorem Tk.refl (H : Hp) : Tk K H H := ⟨fun _ _ h => h, fun _ _ h => h, fun _ _ _ h => h⟩
theorem Tk.trans (h : Tk K H H1) (g : Tk K H1 H2) : Tk K H H2 := ⟨fun a xs e => g.t a xs (h.t a xs e), fun a xs e => g.c a xs (h.c a xs e), fun a o u e => g.f a o u (h.f a o u e)⟩
theorem Tk.of (h : ∀ a o, H a = some o → (∀ xs, o ≠ .tup xs) ∧ (∀ ob u, o ≠ .frz ob u) ∨ H' a = some o) : Tk K H H' := ⟨fun a xs e => by
  rcases e with (e | ⟨o, e⟩) | e
  · rcases h _ _ e with ⟨q, _⟩ | q
    · exact absurd rfl (q xs)
    · exact .inl (.inl q)
  · rcases h _ _ e with ⟨_, q⟩ | q
    · exact absurd rfl (q _ _)
    · exact .inl (.inr ⟨o, q⟩)
  · exact .inr e, fun a xs e => by
  rcases e with ⟨o, e⟩ | e
  · rcases h _ _ e with ⟨_, q⟩ | q
    · exact absurd rfl (q _ _)
    · exact .inl ⟨o, q⟩
  · exact .inr e, fun a ob u e => by
  rcases h _ _ e with ⟨_, q⟩ | q
  · exact absurd rfl (q _ _)
  · exact q⟩
theorem Tk.new {p : Addr} {o : HO} (h : H p = none) : Tk K H (upd H p o) := Tk.of fun a u e => .inr (by rw [upd_ne (ne_of_none e h)]; exact e)
theorem Tk.same (h : Same H H') : Tk K H H' := Tk.of fun a u e => .inr (h a u e)
theorem Tk.write {p : Addr} {o u : HO} (h : H p = some u) (q : (∀ xs, u ≠ .tup xs) ∧ (∀ ob z, u ≠ .frz ob z)) : Tk K H (upd H p o) := Tk.of fun a x e => by
  by_cases z : a = p
  · subst z; rw [h] at e; cases e; exact .inl q
  · exact .inr (by rw [upd_ne z]; exact e)
mutual
theorem Rep.mono (t : Tk K H H') : ∀ {v : V} {d : Dv}, Rep K H v d → Rep K H' v d
  | _, _, .non => .non
  | _, _, .bl b => .bl b
  | _, _, .int b => .int b
  | _, _, .str b => .str b
  | _, _, .ty b => .ty b
  | _, _, .ref b => .ref b
  | _, _, .tup h l => .tup (t.t _ _ h) (RepL.mono t l)
  | _, _, .rol h l => .rol (t.c _ _ h) (RepL.mono t l)
  | _, _, .rod h e l => .rod (t.f _ _ _ h) e (RepL.mono t l)
  | _, _, .obj h e l => .obj (t.f _ _ _ h) e (RepL.mono t l)
theorem RepL.mono (t : Tk K H H') : ∀ {vs : List V} {ds : List Dv}, RepL K H vs ds → RepL K H' vs ds
  | _, _, .nil => .nil
  | _, _, .cons h l => .cons (Rep.mono t h) (RepL.mono t l)
end
theorem RepL.length : ∀ {vs : List V} {ds : List Dv}, RepL K H vs ds → vs.length = ds.length
  | _, _, .nil => rfl
  | _, _, .cons _ l => congrArg (· + 1) (RepL.length l)
theorem RepL.get : ∀ {vs : List V} {ds : List Dv} {i : Nat} {d : Dv}, RepL K H vs ds → ds[i]? = some d → ∃ v, vs[i]? = some v ∧ Rep K H v d
  | _, _, _, _, .nil, e => by simp at e
  | _, _, 0, _, .cons h _, e => by simp at e; subst e; exact ⟨_, rfl, h⟩
  | _, _, i + 1, d, .cons _ l, e => by
    obtain ⟨v, h1, h2⟩ := RepL.get (i := i) (d := d) l (by simpa using e)
    exact ⟨v, by simpa using h1, h2⟩
theorem RepL.get' : ∀ {vs : List V} {ds : List Dv} {i : Nat} {v : V}, RepL K H vs ds → vs[i]? = some v → ∃ d, ds[i]? = some d ∧ Rep K H v d
  | _, _, _, _, .nil, e => by simp at e
  | _, _, 0, _, .cons h _, e => by simp at e; subst e; exact ⟨_, rfl, h⟩
  | _, _, i + 1, d, .cons _ l, e => by
    obtain ⟨v, h1, h2⟩ := RepL.get' (i := i) (v := d) l (by simpa using e)
    exact ⟨v, by simpa using h1, h2⟩
theorem RepL.append : ∀ {vs : List V} {ds : List Dv} {us : List V} {es : List Dv}, RepL K H vs ds → RepL K H us es → RepL K H (vs ++ us) (ds ++ es)
  | _, _, _, _, .nil, q => q
  | _, _, _, _, .cons h l, q => .cons h (RepL.append l q)
theorem RepL.take : ∀ {vs : List V} {ds : List Dv} (n : Nat), RepL K H vs ds → RepL K H (vs.take n) (ds.take n)
  | _, _, 0, _ => .nil
  | _, _, _ + 1, .nil => .nil
  | _, _, n + 1, .cons h l => .cons h (RepL.take n l)
theorem RepL.drop : ∀ {vs : List V} {ds : List Dv} (n : Nat), RepL K H vs ds → RepL K H (vs.drop n) (ds.drop n)
  | _, _, 0, q => q
  | _, _, _ + 1, .nil => .nil
  | _, _, n + 1, .cons _ l => RepL.drop n l
theorem RepL.set : ∀ {vs : List V} {ds : List Dv} {v : V} {d : Dv} (n : Nat), RepL K H vs ds → Rep K H v d → RepL K H (vs.set n v) (ds.set n d)
  | _, _, _, _, _, .nil, _ => .nil
  | _, _, _, _, 0, .cons _ l, q => .cons q l
  | _, _, _, _, n + 1, .cons h l, q => .cons h (RepL.set n l q)
theorem RepL.rep {vs : List V} {ds : List Dv} (h : RepL K H vs ds) : ∀ k : Nat, RepL K H (List.replicate k vs).flatten (List.replicate k ds).flatten
  | 0 => .nil
  | k + 1 => by
    rw [List.replicate_succ, List.replicate_succ, List.flatten_cons, List.flatten_cons]
    exact h.append (RepL.rep h k)
theorem RepL.nil_iff {vs : List V} {ds : List Dv} (h : RepL K H vs ds) : vs = [] ↔ ds = [] := by
  cases h <;> simp
theorem RepL.erase : ∀ {vs : List V} {ds : List Dv} (n : Nat), RepL K H vs ds → RepL K H (vs.eraseIdx n) (ds.eraseIdx n)
  | _, _, _, .nil => .nil
  | _, _, 0, .cons _ l => l
  | _, _, n + 1, .cons h l => .cons h (RepL.erase n l)

/-! inversions -/
theorem Rep.i_non {v : V} (h : Rep K H v .non) : v = .non := by cases h; rfl
theorem Rep.i_bl {v : V} {b : Bool} (h : Rep K H v (.bl b)) : v = .bl b := by cases h; rfl
theorem Rep.i_int {v : V} {b : Int} (h : Rep K H v (.int b)) : v = .int b := by cases h; rfl
theorem Rep.i_str {v : V} {b : Str} (h : Rep K H v (.str b)) : v = .str b := by cases h; rfl
theorem Rep.i_ty {v : V} {b : String} (h : Rep K H v (.ty b)) : v = .ty b := by cases h; rfl
theorem Rep.i_ref {v : V} {b : Addr} (h : Rep K H v (.ref b)) : v = .ref b := by cases h; rfl
theorem Rep.i_tup {v : V} {ds : List Dv} (h : Rep K H v (.tup ds)) : ∃ a xs, v = .ref a ∧ SqT K H a xs ∧ RepL K H xs ds := by
  cases h with | tup h l => exact ⟨_, _, rfl, h, l⟩
theorem Rep.i_rol {v : V} {ds : List Dv} (h : Rep K H v (.rol ds)) : ∃ a xs, v = .ref a ∧ CL K H a xs ∧ RepL K H xs ds := by
  cases h with | rol h l => exact ⟨_, _, rfl, h, l⟩
theorem Rep.i_rod {v : V} {ks : List Key} {ds : List Dv} (h : Rep K H v (.rod ks ds)) : ∃ a o vs, v = .ref a ∧ H a = some (.frz o (.dK (ks.zip vs))) ∧ ks.length = vs.length ∧ RepL K H vs ds := by
  cases h with | rod h e l => exact ⟨_, _, _, rfl, h, e, l⟩
theorem Rep.i_obj {v : V} {C : Addr} {ns : List Str} {ds : List Dv} (h : Rep K H v (.obj C ns ds)) : ∃ a dx o vs, v = .ref a ∧ H a = some (.frz o (.ins C dx (ns.zip vs))) ∧ ns.length = vs.length ∧ RepL K H vs ds := by
  cases h with | obj h e l => exact ⟨_, _, _, _, rfl, h, e, l⟩
theorem RepL.ints : ∀ {vs : List V} {ns : List Int}, RepL K H vs (ns.map Dv.int) → vs = ns.map V.int
  | _, [], .nil => rfl
  | _, _ :: _, .cons h l => by rw [h.i_int, RepL.ints l]; rfl
theorem RepL.bls : ∀ {vs : List V} {ns : List Bool}, RepL K H vs (ns.map Dv.bl) → vs = ns.map V.bl
  | _, [], .nil => rfl
  | _, _ :: _, .cons h l => by rw [h.i_bl, RepL.bls l]; rfl
theorem RepL.strs : ∀ {vs : List V} {ns : List Str}, RepL K H vs (ns.map Dv.str) → vs = ns.map V.str
  | _, [], .nil => rfl
  | _, _ :: _, .cons h l => by rw [h.i_str, RepL.strs l]; rfl
theorem RepL.of_ints : ∀ (ns : List Int), RepL K H (ns.map V.int) (ns.map Dv.int)
  | [] => .nil
  | i :: r => .cons (.int i) (RepL.of_ints r)
theorem RepL.of_bls : ∀ (ns : List Bool), RepL K H (ns.map V.bl) (ns.map Dv.bl)
  | [] => .nil
  | i :: r => .cons (.bl i) (RepL.of_bls r)
theorem RepL.of_strs : ∀ (ns : List Str), RepL K H (ns.map V.str) (ns.map Dv.str)
  | [] => .nil
  | i :: r => .cons (.str i) (RepL.of_strs r)
theorem RepL.cons_i {vs : List V} {d : Dv} {ds : List Dv} (h : RepL K H vs (d :: ds)) : ∃ v r, vs = v :: r ∧ Rep K H v d ∧ RepL K H r ds := by
  cases h with | cons h l => exact ⟨_, _, rfl, h, l⟩
theorem RepL.nil_i {vs : List V} (h : RepL K H vs []) : vs = [] := by cases h; rfl

/-! the store -/
def RepF (K : PySem.W.Frag) (H : Hp) : List (Str × V) → List (Str × Dv) → Prop := Paired fun p q => p.1 = q.1 ∧ Rep K H p.2 q.2
def RepK (K : PySem.W.Frag) (H : Hp) : List (Key × V) → List (Key × Dv) → Prop := Paired fun p q => p.1 = q.1 ∧ Rep K H p.2 q.2
theorem RepF.mono (t : Tk K H H') {gs : List (Str × V)} {fs : List (Str × Dv)} (h : RepF K H gs fs) : RepF K H' gs fs := Paired.mapP h fun _ _ q => ⟨q.1, q.2.mono t⟩
theorem RepK.mono (t : Tk K H H') {gs : List (Key × V)} {fs : List (Key × Dv)} (h : RepK K H gs fs) : RepK K H' gs fs := Paired.mapP h fun _ _ q => ⟨q.1, q.2.mono t⟩
def RepO (K : PySem.W.Frag) (H : Hp) (a : Addr) : MO → Prop
  | .lst ds => ∃ xs, H a = some (.lst xs) ∧ RepL K H xs ds
  | .dK kvs => ∃ gs, H a = some (.dK gs) ∧ RepK K H gs kvs
  | .ins C dx fs => ∃ gs, H a = some (.ins C dx gs) ∧ RepF K H gs fs
  | .xd fs => ∃ gs, H a = some (.xd gs) ∧ RepF K H gs fs
theorem RepO.mono (t : Tk K H H') {a : Addr} {m : MO} (e : ∀ o, H a = some o → H' a = some o) (h : RepO K H a m) : RepO K H' a m := by
  cases m with
  | lst ds => obtain ⟨gs, h1, h2⟩ := h; exact ⟨gs, e _ h1, h2.mono t⟩
  | dK kvs => obtain ⟨gs, h1, h2⟩ := h; exact ⟨gs, e _ h1, h2.mono t⟩
  | ins C dx fs => obtain ⟨gs, h1, h2⟩ := h; exact ⟨gs, e _ h1, h2.mono t⟩
  | xd fs => obtain ⟨gs, h1, h2⟩ := h; exact ⟨gs, e _ h1, h2.mono t⟩
theorem RepO.mlst {a : Addr} {xs : List V} {ds : List Dv} (h : H a = some (.lst xs)) (r : RepL K H xs ds) : RepO K H a (.lst ds) := ⟨xs, h, r⟩
theorem RepO.mdK {a : Addr} {gs : List (Key × V)} {kvs : List (Key × Dv)} (h : H a = some (.dK gs)) (r : RepK K H gs kvs) : RepO K H a (.dK kvs) := ⟨gs, h, r⟩
theorem RepO.mins {a C dx : Addr} {gs : List (Str × V)} {fs : List (Str × Dv)} (h : H a = some (.ins C dx gs)) (r : RepF K H gs fs) : RepO K H a (.ins C dx fs) := ⟨gs, h, r⟩
theorem RepO.mxd {a : Addr} {gs : List (Str × V)} {fs : List (Str × Dv)} (h : H a = some (.xd gs)) (r : RepF K H gs fs) : RepO K H a (.xd fs) := ⟨gs, h, r⟩
theorem wr_lst {ys : List V} : (∀ xs, HO.lst ys ≠ .tup xs) ∧ (∀ ob z, HO.lst ys ≠ .frz ob z) := by constructor <;> intros <;> intro h <;> cases h
theorem wr_dK {ys : List (Key × V)} : (∀ xs, HO.dK ys ≠ .tup xs) ∧ (∀ ob z, HO.dK ys ≠ .frz ob z) := by constructor <;> intros <;> intro h <;> cases h
theorem wr_ins {C dx : Addr} {ys : List (Str × V)} : (∀ xs, HO.ins C dx ys ≠ .tup xs) ∧ (∀ ob z, HO.ins C dx ys ≠ .frz ob z) := by constructor <;> intros <;> intro h <;> cases h
theorem wr_xd {ys : List (Str × V)} : (∀ xs, HO.xd ys ≠ .tup xs) ∧ (∀ ob z, HO.xd ys ≠ .frz ob z) := by constructor <;> intros <;> intro h <;> cases h
theorem RepO.there {a : Addr} {m : MO} (h : RepO K H a m) : ∃ o, H a = some o := by
  cases m with
  | lst ds => obtain ⟨gs, h1, h2⟩ := h; exact ⟨_, h1⟩
  | dK kvs => obtain ⟨gs, h1, h2⟩ := h; exact ⟨_, h1⟩
  | ins C dx fs => obtain ⟨gs, h1, h2⟩ := h; exact ⟨_, h1⟩
  | xd fs => obtain ⟨gs, h1, h2⟩ := h; exact ⟨_, h1⟩
def Abs (K : PySem.W.Frag) (H : Hp) (S : Sto) : Prop := ∀ a m, S a = some m → RepO K H a m
theorem Abs.sub {S T : Sto} (h : Abs K H T) (s : Sub S T) : Abs K H S := fun a m e => h a m (s a m e)
theorem Abs.free {S : Sto} (h : Abs K H S) {p : Addr} (n : H p = none) : S p = none := by
  cases e : S p with
  | none => rfl
  | some m =>
    obtain ⟨o, q⟩ := (h p m e).there
    rw [n] at q; cases q
theorem Abs.new {S : Sto} {p : Addr} {o : HO} {m : MO} (h : Abs K H S) (n : H p = none) (q : RepO K (upd H p o) p m) : Abs K (upd H p o) (put S p m) := fun a k e => by
  by_cases z : a = p
  · subst z; rw [put_same] at e; cases e; exact q
  · rw [put_ne z] at e
    exact (h a k e).mono (Tk.new n) fun u hu => by rw [upd_ne z]; exact hu
theorem Abs.tup {S : Sto} {p : Addr} {o : HO} (h : Abs K H S) (n : H p = none) : Abs K (upd H p o) S := fun a k e =>
  (h a k e).mono (Tk.new n) fun u hu => by rw [upd_ne (ne_of_none hu n)]; exact hu
theorem Abs.write {S : Sto} {p : Addr} {o u : HO} {m : MO} (h : Abs K H S) (e : H p = some u) (q : (∀ xs, u ≠ .tup xs) ∧ (∀ ob z, u ≠ .frz ob z)) (r : RepO K (upd H p o) p m) : Abs K (upd H p o) (put S p m) := fun a k ek => by
  by_cases z : a = p
  · subst z; rw [put_same] at ek; cases ek; exact r
  · rw [put_ne z] at ek
    exact (h a k ek).mono (Tk.write e q) fun v hv => by rw [upd_ne z]; exact hv
/-- what is stored is in the heap or in the written part -/
theorem Abs.same {S : Sto} (h : Abs K H S) (e : Same H H') : Abs K H' S := fun a m q => (h a m q).mono (Tk.same e) (e a)
end

/-! slots -/
structure RepS (K : PySem.W.Frag) (H : Hp) (σ : L2.St) (ρ : Rho) : Prop where
  len : σ.length = ρ.length
  at_ : ∀ (i : Nat) (d : Dv), ρ[i]? = some (some d) → ∃ v, σ[i]? = some (some v) ∧ Rep K H v d
section
variable {K : PySem.W.Frag} {H H' : Hp} {σ : L2.St} {ρ : Rho}
theorem RepS.mono (t : Tk K H H') (h : RepS K H σ ρ) : RepS K H' σ ρ := ⟨h.len, fun i d e => by
  obtain ⟨v, h1, h2⟩ := h.at_ i d e
  exact ⟨v, h1, h2.mono t⟩⟩
theorem RepS.set {v : V} {d : Dv} (h : RepS K H σ ρ) (i : Nat) (r : Rep K H v d) : RepS K H (σ.set i (some v)) (ρ.set i (some d)) := by
  refine ⟨by simp [h.len], fun j e q => ?_⟩
  by_cases hj : i = j
  · subst hj
    by_cases hl : i < ρ.length
    · rw [List.getElem?_set_self hl] at q
      cases q
      exact ⟨v, List.getElem?_set_self (by rw [h.len]; exact hl), r⟩
    · rw [List.getElem?_eq_none (by simp; omega)] at q; cases q
  · rw [List.getElem?_set_ne hj] at q ⊢
    exact h.at_ j e q
theorem RepS.setN (h : RepS K H σ ρ) (i : Nat) : RepS K H (σ.set i none) (ρ.set i none) := by
  refine ⟨by simp [h.len], fun j e q => ?_⟩
  by_cases hj : i = j
  · subst hj
    by_cases hl : i < ρ.length
    · rw [List.getElem?_set_self hl] at q; cases q
    · rw [List.getElem?_eq_none (by simp; omega)] at q; cases q
  · rw [List.getElem?_set_ne hj] at q ⊢
    exact h.at_ j e q
def wipeD (ρ : Rho) : List Nat → Rho
  | [] => ρ
  | v :: vs => (wipeD ρ vs).set v none
theorem RepS.wipe (h : RepS K H σ ρ) : ∀ vs, RepS K H (wipe σ vs) (wipeD ρ vs)
  | [] => h
  | v :: vs => (RepS.wipe h vs).setN v
def startD (N : List Str) (ds : List Dv) : Rho := ds.map some ++ List.replicate (N.length - ds.length) none
theorem RepS.start {N : List Str} : ∀ {vs : List V} {ds : List Dv}, RepL K H vs ds → RepS K H (start N vs) (startD N ds) := fun {vs ds} r => by
  have hl := r.length
  refine ⟨by simp [L2.start, startD, hl], fun i d e => ?_⟩
  unfold startD at e
  unfold L2.start
  by_cases hi : i < ds.length
  · rw [List.getElem?_append_left (by simpa using hi), List.getElem?_map] at e
    obtain ⟨d', e1, e2⟩ : ∃ d', ds[i]? = some d' ∧ d' = d := by
      cases q : ds[i]? with
      | none => rw [q] at e; cases e
      | some d' => rw [q] at e; cases e; exact ⟨_, rfl, rfl⟩
    subst e2
    obtain ⟨v, h1, h2⟩ := r.get e1
    exact ⟨v, by rw [List.getElem?_append_left (by simp; omega), List.getElem?_map, h1]; rfl, h2⟩
  · rw [List.getElem?_append_right (by simpa using hi)] at e
    rw [List.getElem?_replicate] at e
    split at e <;> cases e
end
end VD

namespace VD
open PySem PySem.Spec PyProof.Rows L2

abbrev QD := Dv → Sto → Prop
abbrev XD := Value → Option Addr → Sto → Prop
abbrev DE := Rho → Sto → QD → XD → Prop
abbrev DT := Rho → Sto → (Bool → Sto → Prop) → XD → Prop
abbrev DA := Rho → Sto → (List Dv → Sto → Prop) → XD → Prop
abbrev DO := Rho → Sto → (Option Int → Sto → Prop) → XD → Prop
structure DEnds where
  nx : Rho → Sto → Prop
  rt : Dv → Sto → Prop
  bk : Rho → Sto → Prop := fun _ _ => False
  ct : Rho → Sto → Prop := fun _ _ => False
  ex : Value → Option Addr → Rho → Sto → Prop := fun _ _ _ _ => False
abbrev DS := DEnds → Rho → Sto → Prop
abbrev W0 : WX := fun _ _ _ _ => False
abbrev X0 : XD := fun _ _ _ => False

section
variable (K : PySem.W.Frag) (W : WX)
def Lk (H : Hp) (Qh : QD) (Q : VK) : Prop := ∀ d S' v H', Qh d S' → Tk K H H' → Rep K H' v d → Abs K H' S' → Q v H'
def LkT (H : Hp) (Qh : Bool → Sto → Prop) (Q : Bool → Hp → Prop) : Prop := ∀ b S' H', Qh b S' → Tk K H H' → Abs K H' S' → Q b H'
def LkA (H : Hp) (Qh : List Dv → Sto → Prop) (Q : List V → Hp → Prop) : Prop := ∀ ds S' vs H', Qh ds S' → Tk K H H' → RepL K H' vs ds → Abs K H' S' → Q vs H'
def LkO (H : Hp) (Qh : Option Int → Sto → Prop) (Q : Option Int → Hp → Prop) : Prop := ∀ o S' H', Qh o S' → Tk K H H' → Abs K H' S' → Q o H'
def LkG (H : Hp) (Qh : Rho → Sto → Prop) (Q : L2.St → Hp → Prop) : Prop := ∀ ρ' S' σ' H', Qh ρ' S' → Tk K H H' → RepS K H' σ' ρ' → Abs K H' S' → Q σ' H'
def Lx (σ : L2.St) (H : Hp) (Xh : XD) : Prop := ∀ c da S' H', Xh c da S' → Tk K H H' → Abs K H' S' → W c da σ H'
structure LkS (H : Hp) (Dh : DEnds) (D : Ends) : Prop where
  nx : LkG K H Dh.nx D.nx
  rt : Lk K H Dh.rt D.rt
  bk : LkG K H Dh.bk D.bk
  ct : LkG K H Dh.ct D.ct
  ex : ∀ c da, LkG K H (Dh.ex c da) (W c da)
def low (de : DE) : TE := fun σ H Q => ∃ ρ S Qh Xh, RepS K H σ ρ ∧ Abs K H S ∧ de ρ S Qh Xh ∧ Lk K H Qh Q ∧ Lx K W σ H Xh
def lowT (dt : DT) : TT := fun σ H Q => ∃ ρ S Qh Xh, RepS K H σ ρ ∧ Abs K H S ∧ dt ρ S Qh Xh ∧ LkT K H Qh Q ∧ Lx K W σ H Xh
def lowA (da : DA) : TA := fun σ H Q => ∃ ρ S Qh Xh, RepS K H σ ρ ∧ Abs K H S ∧ da ρ S Qh Xh ∧ LkA K H Qh Q ∧ Lx K W σ H Xh
def lowO (da : DO) : TO := fun σ H Q => ∃ ρ S Qh Xh, RepS K H σ ρ ∧ Abs K H S ∧ da ρ S Qh Xh ∧ LkO K H Qh Q ∧ Lx K W σ H Xh
def lowS (ds : DS) : TS := fun D σ H => ∃ ρ S Dh, RepS K H σ ρ ∧ Abs K H S ∧ ds Dh ρ S ∧ LkS K W H Dh D
end
section
variable {K : PySem.W.Frag} {W : WX} {H H1 : Hp} {σ : L2.St}
theorem Lk.mono {Qh : QD} {Q : VK} (k : Lk K H Qh Q) (t : Tk K H H1) : Lk K H1 Qh Q := fun d S v H' q t' => k d S v H' q (t.trans t')
theorem LkT.mono {Qh : Bool → Sto → Prop} {Q : Bool → Hp → Prop} (k : LkT K H Qh Q) (t : Tk K H H1) : LkT K H1 Qh Q := fun d S H' q t' => k d S H' q (t.trans t')
theorem LkA.mono {Qh : List Dv → Sto → Prop} {Q : List V → Hp → Prop} (k : LkA K H Qh Q) (t : Tk K H H1) : LkA K H1 Qh Q := fun d S v H' q t' => k d S v H' q (t.trans t')
theorem LkO.mono {Qh : Option Int → Sto → Prop} {Q : Option Int → Hp → Prop} (k : LkO K H Qh Q) (t : Tk K H H1) : LkO K H1 Qh Q := fun d S H' q t' => k d S H' q (t.trans t')
theorem LkG.mono {Qh : Rho → Sto → Prop} {Q : L2.St → Hp → Prop} (k : LkG K H Qh Q) (t : Tk K H H1) : LkG K H1 Qh Q := fun d S v H' q t' => k d S v H' q (t.trans t')
theorem Lx.mono {Xh : XD} (k : Lx K W σ H Xh) (t : Tk K H H1) : Lx K W σ H1 Xh := fun c d S H' q t' => k c d S H' q (t.trans t')
theorem LkS.mono {Dh : DEnds} {D : Ends} (k : LkS K W H Dh D) (t : Tk K H H1) : LkS K W H1 Dh D := ⟨k.nx.mono t, k.rt.mono t, k.bk.mono t, k.ct.mono t, fun c d => (k.ex c d).mono t⟩
theorem Lk.now {Qh : QD} {Q : VK} (k : Lk K H Qh Q) {d : Dv} {S : Sto} {v : V} (q : Qh d S) (r : Rep K H v d) (a : Abs K H S) : Q v H := k d S v H q (Tk.refl H) r a
end

/-! weaker readings -/
section
variable {X : Cx}
theorem pei {e : Expr} {t t' : TE} (h : PE X e t) (i : ∀ σ H Q, t' σ H Q → t σ H Q) : PE X e t' := ⟨fun pins s σ H Q I q => h.run pins s σ H Q I (i σ H Q q)⟩
theorem pti {e : Expr} {t t' : TT} (h : PT X e t) (i : ∀ σ H Q, t' σ H Q → t σ H Q) : PT X e t' := ⟨fun pins s σ H Q I q => h.run pins s σ H Q I (i σ H Q q)⟩
theorem pwi {e : Expr} {t t' : TT} (h : PW X e t) (i : ∀ σ H Q, t' σ H Q → t σ H Q) : PW X e t' := ⟨fun wh pins s σ H Q I q => h.run wh pins s σ H Q I (i σ H Q q)⟩
theorem pai {e : List Expr} {t t' : TA} (h : PA X e t) (i : ∀ σ H Q, t' σ H Q → t σ H Q) : PA X e t' := ⟨fun pos pins s σ H Q I q => h.run pos pins s σ H Q I (i σ H Q q)⟩
theorem poi {e : Option Expr} {t t' : TO} (h : PO X e t) (i : ∀ σ H Q, t' σ H Q → t σ H Q) : PO X e t' := ⟨fun pins s σ H Q I q => h.run pins s σ H Q I (i σ H Q q)⟩
theorem psi {e : Stmt} {t t' : TS} (h : PS X e t) (i : ∀ D σ H, t' D σ H → t D σ H) : PS X e t' := ⟨fun pins s σ H D I q => h.run pins s σ H D I (i D σ H q)⟩
theorem pssi {e : List Stmt} {t t' : TS} (h : PSs X e t) (i : ∀ D σ H, t' D σ H → t D σ H) : PSs X e t' := ⟨fun pins s σ H D I q => h.run pins s σ H D I (i D σ H q)⟩
end

section
variable {X : Cx} {W : WX} {a b c e : Expr} {da db dc de : DE} {pos : Pos} {es : List Expr} {das : DA}

/-! names, constants -/
def dVar (i : Nat) : DE := fun ρ S Q _ => ∃ d, ρ[i]? = some (some d) ∧ Q d S
def dC (d : Dv) : DE := fun _ S Q _ => Q d S
theorem low_var (i : Nat) : ∀ σ H Q, low X.K W (dVar i) σ H Q → tVar i σ H Q := fun σ H Q ⟨ρ, S, Qh, Xh, hσ, hS, h, k, x⟩ => by
  obtain ⟨d, e, q⟩ := h
  obtain ⟨v, e', r⟩ := hσ.at_ i d e
  exact ⟨v, e', k.now q r hS⟩
theorem dv (i : Nat) {x : Str} {pos : Pos} (hN : X.N[i]? = some x := by rfl) (hv : Vis X.env.scope x := by first | exact Or.inl rfl | exact Or.inr (Or.inl rfl) | exact Or.inr (Or.inr rfl)) (hd : (x == ("__debug__" : Str)) = false := by decide)
    (hcd : (x == ("__classdict__" : Str)) = false := by decide) : PE X (.Name x pos) (low X.K W (dVar i)) := pei (pv i hN hv hd hcd) (low_var i)
theorem low_c {v : V} {d : Dv} (r : ∀ H, Rep X.K H v d) : ∀ σ H Q, low X.K W (dC d) σ H Q → tC v σ H Q := fun σ H Q ⟨ρ, S, Qh, Xh, hσ, hS, h, k, x⟩ => k.now h (r H) hS
theorem d_int {i j pos} : PE X (.Constant (.int i) j pos) (low X.K W (dC (.int i))) := pei pe_int (low_c fun _ => .int i)
theorem d_bl {b j pos} : PE X (.Constant (.bool b) j pos) (low X.K W (dC (.bl b))) := pei pe_bl (low_c fun _ => .bl b)
theorem d_non {j pos} : PE X (.Constant .none j pos) (low X.K W (dC .non)) := pei pe_non (low_c fun _ => .non)
theorem d_str {x j pos} : PE X (.Constant (.str x) j pos) (low X.K W (dC (.str x))) := pei pe_str (low_c fun _ => .str x)
/-- a written value as data -/
inductive VRep (K : PySem.W.Frag) : Value → Dv → Prop
  | mk {u : Value} {v : V} {d : Dv} (r : RelV v u) (h : ∀ H, Rep K H v d) : VRep K u d
theorem d_glob {x : Str} {u : Value} {d : Dv} {pos : Pos} (hm : X.mg x = some u) (r : VRep X.K u d) (hg : Gl X x := by rfl) (hd : (x == ("__debug__" : Str)) = false := by decide) : PE X (.Name x pos) (low X.K W (dC d)) := by
  cases r with | mk r h => exact pei (pe_glob hg hm r hd) (low_c h)
theorem d_bltn {x : Str} {v : V} {u : Value} {d : Dv} {pos : Pos} (hm : X.mg x = none) (hv : bootBuiltins x = some u) (r : RelV v u) (h : ∀ H, Rep X.K H v d) (hg : Gl X x := by rfl) (hn : x ≠ "__name__" := by decide) (hd : (x == ("__debug__" : Str)) = false := by decide) :
    PE X (.Name x pos) (low X.K W (dC d)) := pei (pe_bltn hg hm hv r hn hd) (low_c h)

/-! arguments -/
def dNil : DA := fun _ S Q _ => Q [] S
def dCons (da : DE) (dr : DA) : DA := fun ρ S Q X => da ρ S (fun x S1 => dr ρ S1 (fun xs S2 => Q (x :: xs) S2) X) X
theorem da_nil : PA X [] (lowA X.K W dNil) := pai pa_nil fun σ H Q ⟨ρ, S, Qh, Xh, hσ, hS, h, k, x⟩ => k [] S [] H h (Tk.refl H) .nil hS
theorem da_cons (ha : PE X e (low X.K W de)) (hr : PA X es (lowA X.K W das)) (hs : starEach (e :: es) X.env = (false, eval e X.env) :: starEach es X.env := by rfl) : PA X (e :: es) (lowA X.K W (dCons de das)) :=
  pai (pa_cons ha hr hs) fun σ H Q ⟨ρ, S, Qh, Xh, hσ, hS, h, k, x⟩ => ⟨ρ, S, _, Xh, hσ, hS, h, fun d S1 v H1 q1 t1 r1 a1 => ⟨ρ, S1, _, Xh, hσ.mono t1, a1, q1, fun ds S2 vs H2 q2 t2 r2 a2 => k _ S2 _ H2 q2 (t1.trans t2) (.cons (r1.mono t2) r2) a2, x.mono t1⟩, x⟩

/-! two-place operators -/
abbrev RD2 := Dv → Dv → Sto → QD → Prop
def LR2 (K : PySem.W.Frag) (r : R2) (rd : RD2) : Prop := ∀ x y H dx dy S Qh Q, Rep K H x dx → Rep K H y dy → Abs K H S → rd dx dy S Qh → Lk K H Qh Q → r x y H Q
def dOp (rd : RD2) (da db : DE) : DE := fun ρ S Q X => da ρ S (fun x S1 => db ρ S1 (fun y S2 => rd x y S2 Q) X) X
theorem low_op {r : R2} {rd : RD2} (hl : LR2 X.K r rd) : ∀ σ H Q, low X.K W (dOp rd da db) σ H Q → tOp r (low X.K W da) (low X.K W db) σ H Q := fun σ H Q ⟨ρ, S, Qh, Xh, hσ, hS, h, k, x⟩ =>
  ⟨ρ, S, _, Xh, hσ, hS, h, fun d1 S1 v1 H1 q1 t1 r1 a1 => ⟨ρ, S1, _, Xh, hσ.mono t1, a1, q1, fun d2 S2 v2 H2 q2 t2 r2 a2 => hl v1 v2 H2 d1 d2 S2 Qh Q (r1.mono t2) r2 a2 q2 (k.mono (t1.trans t2)), x.mono t1⟩, x⟩
theorem d_op {op : Operator} {r : R2} {rd : RD2} (ho : OpR X (binaryOp op) r) (hl : LR2 X.K r rd) (ha : PE X a (low X.K W da)) (hb : PE X b (low X.K W db)) : PE X (.BinOp a op b pos) (low X.K W (dOp rd da db)) := pei (pe_op ho ha hb) (low_op hl)
theorem d_cmp {op : CmpOp} {r : R2} {rd : RD2} (ho : OpR X (compareOp op) r) (hl : LR2 X.K r rd) (ha : PE X a (low X.K W da)) (hb : PE X b (low X.K W db)) (hm : behindInMarks op b = false := by first | exact nomark _ | rfl) :
    PE X (.Compare a [op] [b] pos) (low X.K W (dOp rd da db)) := pei (pe_cmpR ho ha hb hm) (low_op hl)
/-- an expression's truth, a bool -/
def dTest (de : DE) : DT := fun ρ S Q X => de ρ S (fun x S1 => match x with | .bl b => Q b S1 | _ => False) X
theorem low_tB {σ H} {Q : Bool → Hp → Prop} : lowT X.K W (dTest de) σ H Q → (low X.K W de) σ H (fun x H1 => ∃ c, x = .bl c ∧ Q c H1) := fun ⟨ρ, S, Qh, Xh, hσ, hS, h, k, x⟩ =>
  ⟨ρ, S, _, Xh, hσ, hS, h, fun d1 S1 v1 H1 q1 t1 r1 a1 => by
    cases d1 with
    | bl b => exact ⟨b, r1.i_bl, k b S1 H1 q1 t1 a1⟩
    | _ => exact q1.elim, x⟩
theorem t_cmp {op : CmpOp} {r : R2} {rd : RD2} (ho : OpR X (compareOp op) r) (hl : LR2 X.K r rd) (ha : PE X a (low X.K W da)) (hb : PE X b (low X.K W db)) (hm : behindInMarks op b = false := by first | exact nomark _ | rfl) :
    PT X (.Compare a [op] [b] pos) (lowT X.K W (dTest (dOp rd da db))) := pti (pt_cmpR ho ha hb hm) fun σ H Q h => by
  obtain ⟨ρ, S, Qh, Xh, hσ, hS, h, k, x⟩ := low_tB h
  exact low_op hl σ H _ ⟨ρ, S, Qh, Xh, hσ, hS, h, k, x⟩
theorem t_val (h : PE X e (low X.K W de)) (he : ∀ whole, isTrue e X.env whole = (do let v ← whole; standAt e.pos; holding [v] (truthy v)) := by intro _; rfl) : PT X e (lowT X.K W (dTest de)) := pti (pt_val h he) fun σ H Q q => low_tB q
def dChain (r r' : RD2) (da db dc : DE) : DE := fun ρ S Q X => da ρ S (fun x S1 => db ρ S1 (fun y S2 => r x y S2 fun z S3 => match z with
  | .bl true => dc ρ S3 (fun u S4 => r' y u S4 Q) X
  | .bl false => Q (.bl false) S3
  | _ => False) X) X
end

/-! builtins -/
abbrev RDC := List Dv → Sto → QD → Prop
def LRC (K : PySem.W.Frag) (r : List V → Hp → VK → Prop) (rd : RDC) : Prop := ∀ vs H ds S Qh Q, RepL K H vs ds → Abs K H S → rd ds S Qh → Lk K H Qh Q → r vs H Q
def dCB (rd : RDC) (das : DA) : DE := fun ρ S Q X => das ρ S (fun ds S1 => rd ds S1 Q) X
section
variable {X : Cx} {W : WX} {a b c e : Expr} {da db dc de : DE} {pos p : Pos} {es : List Expr} {das : DA} {x : Str} {id T : String} {r : List V → Hp → VK → Prop} {rd : RDC}
theorem low_cb (hl : LRC X.K r rd) : ∀ σ H Q, low X.K W (dCB rd das) σ H Q → tCB r (lowA X.K W das) σ H Q := fun σ H Q ⟨ρ, S, Qh, Xh, hσ, hS, h, k, x⟩ =>
  ⟨ρ, S, _, Xh, hσ, hS, h, fun ds S1 vs H1 q1 t1 r1 a1 => hl vs H1 ds S1 Qh Q r1 a1 q1 (k.mono t1), x⟩
theorem d_callB (hc : CallR X (.builtin id) r) (hl : LRC X.K r rd) (hm : X.mg x = none) (hv : bootBuiltins x = some (.builtin id)) (ha : PA X (e :: es) (lowA X.K W das)) (hg : Gl X x := by rfl) (hn : x ≠ "__name__" := by decide) (hdb : (x == ("__debug__" : Str)) = false := by decide)
    (he : starEach (e :: es) X.env = (false, eval e X.env) :: starEach es X.env := by rfl) (hpl : (backTo pos (starEach es X.env)).any (·.1) = false := by rfl) : PE X (.Call (.Name x p) (e :: es) [] pos) (low X.K W (dCB rd das)) := pei (pe_callB hc hg hm hv ha hn hdb he hpl) (low_cb hl)
theorem d_callTy (hc : CallR X (.type T) r) (hl : LRC X.K r rd) (hm : X.mg x = none) (hv : bootBuiltins x = some (.type T)) (ha : PA X (e :: es) (lowA X.K W das)) (hg : Gl X x := by rfl) (hn : x ≠ "__name__" := by decide) (hdb : (x == ("__debug__" : Str)) = false := by decide)
    (he : starEach (e :: es) X.env = (false, eval e X.env) :: starEach es X.env := by rfl) (hpl : (backTo pos (starEach es X.env)).any (·.1) = false := by rfl) : PE X (.Call (.Name x p) (e :: es) [] pos) (low X.K W (dCB rd das)) := pei (pe_callTy hc hg hm hv ha hn hdb he hpl) (low_cb hl)

/-! own defs -/
abbrev SpD := List Dv → Sto → QD → XD → Prop
def LxE (K : PySem.W.Frag) (H : Hp) (Xh : XD) (E : XK) : Prop := ∀ c da S' H', Xh c da S' → Tk K H H' → Abs K H' S' → E c da H'
def lowF (K : PySem.W.Frag) (sp : SpD) : Sp := fun vs H Q E => ∃ ds S Qh Xh, RepL K H vs ds ∧ Abs K H S ∧ sp ds S Qh Xh ∧ Lk K H Qh Q ∧ LxE K H Xh E
def dCall (sp : SpD) (das : DA) : DE := fun ρ S Q X => das ρ S (fun ds S1 => sp ds S1 Q X) X
variable {sp : SpD} {k : Nat} {f : Addr} {fd : FuncData} {ps : List Str}
abbrev FnD (P : Program) (w : World) (K : PySem.W.Frag) (mg : Str → Option Value) (base : Heap) (k : Nat) (f : Addr) (fd : FuncData) (ps : List Str) (sp : SpD) : Prop := FnG P w K mg base (L2.CX P w) k f fd ps (lowF K sp)
theorem d_call (F : FnD X.prog X.w X.K X.mg X.base k f fd ps sp) (hr : RoomG k X.A) (hm : X.mg x = some (.ref f)) (hk : PySem.W.keepIn X.K (.ref f) = true) (hb : Binds X.K fd ps []) (tk : Takes X W) (ha : PA X (e :: es) (lowA X.K W das))
    (hg : Gl X x := by rfl) (hdb : (x == ("__debug__" : Str)) = false := by decide) (he : starEach (e :: es) X.env = (false, eval e X.env) :: starEach es X.env := by rfl) (hpl : (backTo pos (starEach es X.env)).any (·.1) = false := by rfl) :
    PE X (.Call (.Name x p) (e :: es) [] pos) (low X.K W (dCall sp das)) :=
  pei (pe_callG F hr hg hm hk hb (fun σ => passAt tk σ) ha hdb he hpl) fun σ H Q ⟨ρ, S, Qh, Xh, hσ, hS, h, k, x⟩ => ⟨ρ, S, _, Xh, hσ, hS, h, fun ds S1 vs H1 q1 t1 r1 a1 => ⟨ds, S1, Qh, Xh, r1, a1, q1, k.mono t1, x.mono t1⟩, x⟩
end

section
variable {X : Cx} {W : WX} {a b c e o : Expr} {da db dc de : DE} {pos p apos : Pos} {es : List Expr} {das : DA} {x m f : Str} {sp : SpD} {k : Nat} {g C : Addr} {fd : FuncData} {ps : List Str}
theorem d_call0 (F : FnD X.prog X.w X.K X.mg X.base k g fd ps sp) (hr : RoomG k X.A) (hm : X.mg x = some (.ref g)) (hk : PySem.W.keepIn X.K (.ref g) = true) (hb : Binds X.K fd ps []) (tk : Takes X W) (hg : Gl X x := by rfl) (hdb : (x == ("__debug__" : Str)) = false := by decide) :
    PE X (.Call (.Name x p) [] [] pos) (low X.K W (dCall sp dNil)) :=
  pei (pe_callG0 F hr hg hm hk hb (fun σ => passAt tk σ) hdb) fun σ H Q ⟨ρ, S, Qh, Xh, hσ, hS, h, k, x⟩ => ⟨[], S, Qh, Xh, .nil, hS, h, k, x⟩
/-! ### instances -/
/-- what stands there is an instance: its class, its fields -/
def insOf (d : Dv) (S : Sto) (R : Addr → List Str → List Dv → Prop) : Prop := match d with
  | .obj C ns ds => R C ns ds
  | .ref a => match S a with
    | some (.ins C _ fs) => R C (fs.map (·.1)) (fs.map (·.2))
    | _ => False
  | _ => False
/-- the field f of such -/
def getF (f : Str) : List Str → List Dv → Option Dv
  | n :: ns, d :: ds => if (f == n) = true then some d else getF f ns ds
  | _, _ => none
theorem getF_i {K : PySem.W.Frag} {H : Hp} {f : Str} {d : Dv} : ∀ {ns : List Str} {vs : List V} {ds : List Dv}, RepL K H vs ds → getF f ns ds = some d → ∃ v, (ns.zip vs).lookup f = some v ∧ Rep K H v d
  | [], _, _, _, e => by simp [getF] at e
  | n :: ns, _, [], _, e => by simp [getF] at e
  | n :: ns, _, d' :: ds, l, e => by
    obtain ⟨v, vs, rfl, r, l'⟩ := l.cons_i
    unfold getF at e
    rw [List.zip_cons_cons, List.lookup_cons]
    cases h : f == n with
    | true =>
      rw [if_pos h] at e
      cases e
      exact ⟨v, rfl, r⟩
    | false =>
      rw [if_neg (by rw [h]; decide)] at e
      exact getF_i l' e
theorem getF_none {K : PySem.W.Frag} {H : Hp} {f : Str} : ∀ {ns : List Str} {vs : List V} {ds : List Dv}, ns.length = vs.length → RepL K H vs ds → getF f ns ds = none → (ns.zip vs).lookup f = none
  | [], _, _, _, _, _ => rfl
  | n :: ns, [], _, e, _, _ => by cases e
  | n :: ns, v :: vs, ds, e, l, h => by
    cases l with
    | cons r l' =>
      unfold getF at h
      rw [List.zip_cons_cons, List.lookup_cons]
      cases q : f == n with
      | true => rw [if_pos q] at h; cases h
      | false =>
        rw [if_neg (by rw [q]; decide)] at h
        exact getF_none (by simpa using e) l' h
theorem repF_zip {K : PySem.W.Frag} {H : Hp} : ∀ {gs : List (Str × V)} {fs : List (Str × Dv)}, RepF K H gs fs → RepL K H (gs.map (·.2)) (fs.map (·.2)) ∧ gs = (fs.map (·.1)).zip (gs.map (·.2)) ∧ gs.map (·.1) = fs.map (·.1)
  | _, _, .nil => ⟨.nil, rfl, rfl⟩
  | (g, v) :: gs, (n, d) :: fs, .cons ⟨e, r⟩ t => by
    dsimp only at e r
    obtain ⟨h1, h2, h3⟩ := repF_zip t
    subst e
    refine ⟨.cons r h1, ?_, by simp [h3]⟩
    simp only [List.map_cons, List.zip_cons_cons]
    rw [← h2]
theorem insOf_i {K : PySem.W.Frag} {H : Hp} {S : Sto} {d : Dv} {v : V} {R : Addr → List Str → List Dv → Prop} (r : Rep K H v d) (hS : Abs K H S) (h : insOf d S R) : ∃ a C dx ns vs ds, v = .ref a ∧ InsAt H a C dx (ns.zip vs) ∧ ns.length = vs.length ∧ RepL K H vs ds ∧ R C ns ds := by
  unfold insOf at h
  split at h
  · obtain ⟨a, dx, ob, vs, rfl, e, l, rl⟩ := r.i_obj
    exact ⟨a, _, dx, _, vs, _, rfl, .inr ⟨ob, e⟩, l, rl, h⟩
  · rename_i a
    split at h
    · rename_i C dx fs ea
      obtain ⟨gs, h1, h2⟩ := hS _ _ ea
      obtain ⟨g1, g2, g3⟩ := repF_zip h2
      refine ⟨a, C, dx, _, gs.map (·.2), _, r.i_ref, .inl (by rw [← g2]; exact h1), ?_, g1, h⟩
      rw [← g3]; simp
    · exact h.elim
  · exact h.elim
/-- e.f -/
def dFld (cs : List Addr) (f : Str) (de : DE) : DE := fun ρ S Q X => de ρ S (fun x S1 => insOf x S1 fun C ns ds => C ∈ cs ∧ ∃ d, getF f ns ds = some d ∧ Q d S1) X
theorem d_fld {cs : List Addr} (hc : ∀ C ∈ cs, Cls X.K C ∧ NoAttr X.K C f) (he : PE X e (low X.K W de)) (hb : attributeBase e f X.env (eval e X.env) = eval e X.env := by rfl) : PE X (.Attribute e f pos) (low X.K W (dFld cs f de)) :=
  pei (pe_fldG he hc hb) fun σ H Q ⟨ρ, S, Qh, Xh, hσ, hS, h, k, x⟩ => ⟨ρ, S, _, Xh, hσ, hS, h, fun d1 S1 v1 H1 q1 t1 r1 a1 => by
    obtain ⟨a, C, dx, ns, vs, ds, rfl, e1, l, rl, hm, d, hd, q⟩ := insOf_i r1 a1 q1
    obtain ⟨v, hv, rv⟩ := getF_i rl hd
    exact ⟨a, C, dx, _, v, rfl, e1, hm, hv, k d S1 v H1 q t1 rv a1⟩, x⟩
/-! methods -/
def dMeth (tab : List (Addr × SpD)) (m : Str) (dO : DE) (das : DA) : DE := fun ρ S Q X => dO ρ S (fun x S1 => insOf x S1 fun C ns ds => getF m ns ds = none ∧ ∃ sp, (C, sp) ∈ tab ∧ das ρ S1 (fun vs S2 => sp (x :: vs) S2 Q X) X) X
/-- the class C, its method m at level up to k -/
structure MT (X : Cx) (m : Str) (k : Nat) (C : Addr) (sp : SpD) : Prop where
  c : Cls X.K C
  go : ∃ g, Meth X.K C m g ∧ ∃ (k' : Nat) (fd : FuncData) (ps : List Str), k' ≤ k ∧ FnD X.prog X.w X.K X.mg X.base k' g fd ps sp ∧ Binds X.K fd ps []
theorem mts_nil {m : Str} : ∀ C sp, (C, sp) ∈ ([] : List (Addr × SpD)) → MT X m k C sp := fun _ _ h => by cases h
theorem mts_cons {m : Str} {C : Addr} {sp : SpD} {tab : List (Addr × SpD)} (h : MT X m k C sp) (t : ∀ C sp, (C, sp) ∈ tab → MT X m k C sp) : ∀ C' sp', (C', sp') ∈ (C, sp) :: tab → MT X m k C' sp' := fun C' sp' q => by
  rcases List.mem_cons.mp q with q | q
  · cases q; exact h
  · exact t _ _ q
theorem mtab {tab : List (Addr × SpD)} {E : L2.St → XK} (ht : ∀ C sp, (C, sp) ∈ tab → MT X m k C sp) : ∀ C sp, (C, sp) ∈ tab.map (fun p => (p.1, lowF X.K p.2)) → ∃ f, MTab X (L2.CX X.prog X.w) m k E C f sp := fun C sp h => by
  obtain ⟨⟨C', sp'⟩, h1, h2⟩ := List.mem_map.mp h
  cases h2
  have M := ht _ _ h1
  obtain ⟨g, hm, k', fd, ps, hk, F, hb⟩ := M.go
  exact ⟨g, M.c, hm, k', fd, ps, hk, F, hb⟩
theorem low_meth {tab : List (Addr × SpD)} {dO : DE} : ∀ σ H Q, low X.K W (dMeth tab m dO das) σ H Q → tMethG (tab.map fun p => (p.1, lowF X.K p.2)) m (WE W) (low X.K W dO) (lowA X.K W das) σ H Q := fun σ H Q ⟨ρ, S, Qh, Xh, hσ, hS, h, k, x⟩ =>
  ⟨ρ, S, _, Xh, hσ, hS, h, fun d1 S1 v1 H1 q1 t1 r1 a1 => by
    obtain ⟨a, C, dx, ns, vs, ds, rfl, e1, l, rl, hn, sp, hm, q⟩ := insOf_i r1 a1 q1
    refine ⟨a, C, dx, _, lowF X.K sp, rfl, e1, getF_none l rl hn, List.mem_map.mpr ⟨_, hm, rfl⟩, ρ, S1, _, Xh, hσ.mono t1, a1, q, fun ws S2 us H2 q2 t2 r2 a2 => ?_, x.mono t1⟩
    exact ⟨_, S2, Qh, Xh, .cons (r1.mono t2) r2, a2, q2, k.mono (t1.trans t2), x.mono (t1.trans t2)⟩, x⟩
theorem d_meth {tab : List (Addr × SpD)} {dO : DE} {pl : Sem Bool} (ht : ∀ C sp, (C, sp) ∈ tab → MT X m k C sp) (hr : RoomG k X.A) (tk : Takes X W) (ho : PE X o (low X.K W dO)) (ha : PA X (e :: es) (lowA X.K W das))
    (hst : starEach (e :: es) X.env = (false, eval e X.env) :: starEach es X.env := by rfl) (hpl : (backTo pos (starEach es X.env)).any (·.1) = false := by rfl)
    (hev : eval (.Call (.Attribute o m apos) (e :: es) [] pos) X.env = (do
      let ov ← eval o X.env
      standAt apos.atName
      let (f, first) ← holding [ov] (getMethod ov m pl)
      callWith pos f first (backTo pos (starEach (e :: es) X.env)) (backToKw pos (keywordEach [] X.env))) := by rfl) : PE X (.Call (.Attribute o m apos) (e :: es) [] pos) (low X.K W (dMeth tab m dO das)) :=
  pei (pe_methG (E := WE W) (pl := pl) ho (mtab ht) hr (fun σ => passAt tk σ) ha hst hpl hev) low_meth
theorem low_nilA : ∀ σ H Q, lowA X.K W dNil σ H Q → tNil σ H Q := fun σ H Q ⟨ρ, S, Qh, Xh, hσ, hS, h, k, x⟩ => k [] S [] H h (Tk.refl H) .nil hS
theorem d_meth0 {tab : List (Addr × SpD)} {dO : DE} {pl : Sem Bool} (ht : ∀ C sp, (C, sp) ∈ tab → MT X m k C sp) (hr : RoomG k X.A) (tk : Takes X W) (ho : PE X o (low X.K W dO))
    (hev : eval (.Call (.Attribute o m apos) [] [] pos) X.env = (do
      let ov ← eval o X.env
      standAt apos.atName
      let (f, first) ← holding [ov] (getMethod ov m pl)
      callWith pos f first (backTo pos (starEach [] X.env)) (backToKw pos (keywordEach [] X.env))) := by rfl) : PE X (.Call (.Attribute o m apos) [] [] pos) (low X.K W (dMeth tab m dO dNil)) :=
  pei (pe_methG0 (E := WE W) (pl := pl) ho (mtab ht) hr (fun σ => passAt tk σ) hev) fun σ H Q h => by
    obtain ⟨ρ, S, Qh, Xh, hσ, hS, h, k, x⟩ := low_meth σ H Q h
    exact ⟨ρ, S, Qh, Xh, hσ, hS, h, fun d1 S1 v1 H1 q1 t1 r1 a1 => by
      obtain ⟨a, C, dx, fs, sp, e1, e2, e3, e4, q⟩ := k d1 S1 v1 H1 q1 t1 r1 a1
      exact ⟨a, C, dx, fs, sp, e1, e2, e3, e4, low_nilA _ _ _ q⟩, x⟩
/-! C(..): kept in the store -/
def dMake (C : Addr) (sp : SpD) (das : DA) : DE := fun ρ S Q X => das ρ S (fun vs S1 => ∀ x dx, S1 x = none → S1 dx = none → dx ≠ x → sp (.ref x :: vs) (put S1 x (.ins C dx [])) (fun v S2 => v = .non ∧ Q (.ref x) S2) X) X
theorem low_make : ∀ σ H Q, low X.K W (dMake C sp das) σ H Q → tMakeG C (lowF X.K sp) (WE W) (lowA X.K W das) σ H Q := fun σ H Q ⟨ρ, S, Qh, Xh, hσ, hS, h, k, x⟩ =>
  ⟨ρ, S, _, Xh, hσ, hS, h, fun ds S1 vs H1 q1 t1 r1 a1 y dx ny nd ne => by
    have t2 : Tk X.K H1 (upd H1 dx (.own y)) := Tk.new nd
    have n2 : upd H1 dx (.own y) y = none := by rw [upd_ne ne.symm]; exact ny
    have t3 := t2.trans (Tk.new (o := .ins C dx []) n2)
    refine ⟨_, _, _, Xh, .cons (.ref y) (r1.mono t3), (a1.tup nd).new n2 (.mins upd_same .nil), q1 y dx (a1.free ny) (a1.free nd) ne, fun d S' v H' q t r a => ?_, (x.mono t1).mono t3⟩
    obtain ⟨rfl, q⟩ := q
    exact ⟨r.i_non, k _ _ _ _ q ((t1.trans t3).trans t) (.ref y) a⟩, x⟩
theorem d_make {fI : Addr} (M : Mk X.K C fI) (F : FnD X.prog X.w X.K X.mg X.base k fI fd ps sp) (hr : RoomG (k + 1) X.A) (hm : X.mg x = some (.ref C)) (hb : Binds X.K fd ps []) (tk : Takes X W) (ha : PA X (e :: es) (lowA X.K W das)) (hg : Gl X x := by rfl)
    (hdb : (x == ("__debug__" : Str)) = false := by decide) (he : starEach (e :: es) X.env = (false, eval e X.env) :: starEach es X.env := by rfl) (hpl : (backTo pos (starEach es X.env)).any (·.1) = false := by rfl) :
    PE X (.Call (.Name x p) (e :: es) [] pos) (low X.K W (dMake C sp das)) := pei (pe_makeG (E := WE W) M F hr hg hm hb (fun σ => passAt tk σ) ha hdb he hpl) low_make
theorem d_make0 {fI : Addr} (M : Mk X.K C fI) (F : FnD X.prog X.w X.K X.mg X.base k fI fd ps sp) (hr : RoomG (k + 1) X.A) (hm : X.mg x = some (.ref C)) (hb : Binds X.K fd ps []) (tk : Takes X W) (hg : Gl X x := by rfl) (hdb : (x == ("__debug__" : Str)) = false := by decide) :
    PE X (.Call (.Name x p) [] [] pos) (low X.K W (dMake C sp dNil)) := pei (pe_makeG0 (E := WE W) M F hr hg hm hb (fun σ => passAt tk σ) hdb) fun σ H Q h => by
  obtain ⟨ρ, S, Qh, Xh, hσ, hS, h, k, x⟩ := low_make σ H Q h
  exact k [] S [] H h (Tk.refl H) .nil hS
/-- what is made is frozen: a list, a dict, an instance by its value -/
def frzD (d : Dv) (S : Sto) (Q : QD) : Prop := match d with
  | .ref a => match S a with
    | some (.lst xs) => Q (.rol xs) (rm S a)
    | some (.dK kvs) => Q (.rod (kvs.map (·.1)) (kvs.map (·.2))) (rm S a)
    | some (.ins C _ fs) => Q (.obj C (fs.map (·.1)) (fs.map (·.2))) (rm S a)
    | _ => False
  | d => Q d S
theorem lk_frzD {K : PySem.W.Frag} {H1 : Hp} {S1 : Sto} {v1 : V} {d1 : Dv} {Qh : QD} {Q : VK} (r1 : Rep K H1 v1 d1) (a1 : Abs K H1 S1) (q1 : frzD d1 S1 Qh) (k : Lk K H1 Qh Q) : Q v1 H1 ∨ ∃ a u, v1 = .ref a ∧ H1 a = some u ∧ canFrz u = true ∧ ∀ o, Q v1 (upd H1 a (.frz o u)) := by
  unfold frzD at q1
  have offS : ∀ {a : Addr} {o : Obj} {u : HO}, H1 a = some u → canFrz u = true → Tk K H1 (upd H1 a (.frz o u)) ∧ Abs K (upd H1 a (.frz o u)) (rm S1 a) := by
    intro a o u e hu
    have ne : ∀ b z, H1 b = some z → canFrz z = false → b ≠ a := fun b z hb hz q => by subst q; rw [e] at hb; cases hb; rw [hu] at hz; cases hz
    have t : Tk K H1 (upd H1 a (.frz o u)) := Tk.of fun b z hz => by
      by_cases hb : b = a
      · subst hb; rw [e] at hz; cases hz
        exact .inl ⟨fun xs q => by (subst q; cases hu), fun ob w q => by (subst q; cases hu)⟩
      · exact .inr (by rw [upd_ne hb]; exact hz)
    refine ⟨t, fun b m hb => ?_⟩
    by_cases q : b = a
    · rw [q, rm_same] at hb; cases hb
    · rw [rm_ne q] at hb
      exact (a1 b m hb).mono t fun z hz => by rw [upd_ne q]; exact hz
  split at q1
  · rename_i a
    split at q1
    · rename_i xs ea
      obtain ⟨us, h1, l⟩ := a1 _ _ ea
      refine .inr ⟨a, _, r1.i_ref, h1, rfl, fun o => ?_⟩
      obtain ⟨t, ab⟩ := offS (o := o) h1 rfl
      rw [r1.i_ref]
      exact k _ _ _ _ q1 t (.rol (.inl ⟨o, upd_same⟩) (l.mono t)) ab
    · rename_i kvs ea
      obtain ⟨us, h1, l⟩ := a1 _ _ ea
      refine .inr ⟨a, _, r1.i_ref, h1, rfl, fun o => ?_⟩
      obtain ⟨t, ab⟩ := offS (o := o) h1 rfl
      rw [r1.i_ref]
      have z : ∀ {gs : List (Key × V)} {fs : List (Key × Dv)}, RepK K H1 gs fs → RepL K H1 (gs.map (·.2)) (fs.map (·.2)) ∧ gs = (fs.map (·.1)).zip (gs.map (·.2)) ∧ (fs.map (·.1)).length = (gs.map (·.2)).length := by
        intro gs fs h
        induction h with
        | nil => exact ⟨.nil, rfl, rfl⟩
        | @cons p q gs fs hp t ih =>
          obtain ⟨g, v⟩ := p
          obtain ⟨n, d⟩ := q
          obtain ⟨e, r⟩ := hp
          dsimp only at e r
          subst e
          refine ⟨.cons r ih.1, ?_, by simpa using ih.2.2⟩
          simp only [List.map_cons, List.zip_cons_cons]
          rw [← ih.2.1]
      obtain ⟨z1, z2, z3⟩ := z l
      exact k _ _ _ _ q1 t (.rod (o := o) (vs := us.map (·.2)) (by rw [← z2]; exact upd_same) z3 (z1.mono t)) ab
    · rename_i C dx fs ea
      obtain ⟨us, h1, l⟩ := a1 _ _ ea
      refine .inr ⟨a, _, r1.i_ref, h1, rfl, fun o => ?_⟩
      obtain ⟨t, ab⟩ := offS (o := o) h1 rfl
      rw [r1.i_ref]
      obtain ⟨z1, z2, z3⟩ := repF_zip l
      exact k _ _ _ _ q1 t (.obj (o := o) (dx := dx) (vs := us.map (·.2)) (by rw [← z2]; exact upd_same) (by rw [← z3]; simp) (z1.mono t)) ab
    · exact q1.elim
  · exact .inl (k _ _ _ _ q1 (Tk.refl _) r1 a1)
def dFrz (de : DE) : DE := fun ρ S Q X => de ρ S (fun d S1 => frzD d S1 Q) X
theorem d_frz (h : PE X e (low X.K W de)) : PE X e (low X.K W (dFrz de)) := pei (pe_frz h) fun σ H Q ⟨ρ, S, Qh, Xh, hσ, hS, h, k, x⟩ => ⟨ρ, S, _, Xh, hσ, hS, h, fun d1 S1 v1 H1 q1 t1 r1 a1 => lk_frzD r1 a1 q1 (k.mono t1), x⟩
end

/-! and, or, not, if as values and as tests -/
section
variable {X : Cx} {W : WX} {a b c e : Expr} {da db dc de : DE} {pos : Pos} {rest : List Expr} {ta tb : DT}
def dAndV (da db : DE) : DE := fun ρ S Q X => da ρ S (fun x S1 => match x with | .bl true => db ρ S1 Q X | .bl false => Q (.bl false) S1 | _ => False) X
def dOrV (da db : DE) : DE := fun ρ S Q X => da ρ S (fun x S1 => match x with | .bl true => Q (.bl true) S1 | .bl false => db ρ S1 Q X | _ => False) X
def dNotV (da : DE) : DE := fun ρ S Q X => da ρ S (fun x S1 => match x with | .bl b => Q (.bl (!b)) S1 | _ => False) X
def dIf (t : DT) (da db : DE) : DE := fun ρ S Q X => t ρ S (fun b S1 => if b = true then da ρ S1 Q X else db ρ S1 Q X) X
theorem d_one {op} (h : PE X a (low X.K W da)) : PE X (.BoolOp op [a] pos) (low X.K W da) := pe_one h
theorem d_and (ha : PE X a (low X.K W da)) (hb : PE X (.BoolOp .And (b :: rest) pos) (low X.K W db)) : PE X (.BoolOp .And (a :: b :: rest) pos) (low X.K W (dAndV da db)) := pei (pe_and ha hb) fun σ H Q ⟨ρ, S, Qh, Xh, hσ, hS, h, k, x⟩ =>
  ⟨ρ, S, _, Xh, hσ, hS, h, fun d1 S1 v1 H1 q1 t1 r1 a1 => by
    cases d1 with
    | bl b =>
      refine ⟨b, r1.i_bl, ?_⟩
      cases b with
      | true => exact ⟨ρ, S1, Qh, Xh, hσ.mono t1, a1, q1, k.mono t1, x.mono t1⟩
      | false => exact (k.mono t1).now q1 (.bl false) a1
    | _ => exact q1.elim, x⟩
theorem d_or (ha : PE X a (low X.K W da)) (hb : PE X (.BoolOp .Or (b :: rest) pos) (low X.K W db)) : PE X (.BoolOp .Or (a :: b :: rest) pos) (low X.K W (dOrV da db)) := pei (pe_or ha hb) fun σ H Q ⟨ρ, S, Qh, Xh, hσ, hS, h, k, x⟩ =>
  ⟨ρ, S, _, Xh, hσ, hS, h, fun d1 S1 v1 H1 q1 t1 r1 a1 => by
    cases d1 with
    | bl b =>
      refine ⟨b, r1.i_bl, ?_⟩
      cases b with
      | false => exact ⟨ρ, S1, Qh, Xh, hσ.mono t1, a1, q1, k.mono t1, x.mono t1⟩
      | true => exact (k.mono t1).now q1 (.bl true) a1
    | _ => exact q1.elim, x⟩
theorem d_not (ha : PE X a (low X.K W da)) : PE X (.UnaryOp .Not a pos) (low X.K W (dNotV da)) := pei (pe_not ha) fun σ H Q ⟨ρ, S, Qh, Xh, hσ, hS, h, k, x⟩ =>
  ⟨ρ, S, _, Xh, hσ, hS, h, fun d1 S1 v1 H1 q1 t1 r1 a1 => by
    cases d1 with
    | bl b => exact ⟨b, r1.i_bl, (k.mono t1).now q1 (.bl _) a1⟩
    | _ => exact q1.elim, x⟩
theorem d_ifExp (hc : PT X c (lowT X.K W ta)) (ha : PE X a (low X.K W da)) (hb : PE X b (low X.K W db)) : PE X (.IfExp c a b pos) (low X.K W (dIf ta da db)) := pei (pe_ifExp hc ha hb) fun σ H Q ⟨ρ, S, Qh, Xh, hσ, hS, h, k, x⟩ =>
  ⟨ρ, S, _, Xh, hσ, hS, h, fun b S1 H1 q1 t1 a1 => by
    cases b with
    | true => exact ⟨ρ, S1, Qh, Xh, hσ.mono t1, a1, q1, k.mono t1, x.mono t1⟩
    | false => exact ⟨ρ, S1, Qh, Xh, hσ.mono t1, a1, q1, k.mono t1, x.mono t1⟩, x⟩
def dAndT (t u : DT) : DT := fun ρ S Q X => t ρ S (fun b S1 => if b = true then u ρ S1 Q X else Q false S1) X
def dOrT (t u : DT) : DT := fun ρ S Q X => t ρ S (fun b S1 => if b = true then Q true S1 else u ρ S1 Q X) X
def dNotT (t : DT) : DT := fun ρ S Q X => t ρ S (fun b S1 => Q (!b) S1) X
theorem t_and1 (ha : PT X a (lowT X.K W ta)) : PW X (.BoolOp .And [a] pos) (lowT X.K W ta) := pw_and1 ha
theorem t_or1 (ha : PT X a (lowT X.K W ta)) : PW X (.BoolOp .Or [a] pos) (lowT X.K W ta) := pw_or1 ha
theorem t_and (ha : PT X a (lowT X.K W ta)) (hb : PW X (.BoolOp .And (b :: rest) pos) (lowT X.K W tb)) : PW X (.BoolOp .And (a :: b :: rest) pos) (lowT X.K W (dAndT ta tb)) := pwi (pw_and ha hb) fun σ H Q ⟨ρ, S, Qh, Xh, hσ, hS, h, k, x⟩ =>
  ⟨ρ, S, _, Xh, hσ, hS, h, fun b S1 H1 q1 t1 a1 => by
    cases b with
    | true => exact ⟨ρ, S1, Qh, Xh, hσ.mono t1, a1, q1, k.mono t1, x.mono t1⟩
    | false => exact k _ S1 H1 q1 t1 a1, x⟩
theorem t_or (ha : PT X a (lowT X.K W ta)) (hb : PW X (.BoolOp .Or (b :: rest) pos) (lowT X.K W tb)) : PW X (.BoolOp .Or (a :: b :: rest) pos) (lowT X.K W (dOrT ta tb)) := pwi (pw_or ha hb) fun σ H Q ⟨ρ, S, Qh, Xh, hσ, hS, h, k, x⟩ =>
  ⟨ρ, S, _, Xh, hσ, hS, h, fun b S1 H1 q1 t1 a1 => by
    cases b with
    | true => exact k _ S1 H1 q1 t1 a1
    | false => exact ⟨ρ, S1, Qh, Xh, hσ.mono t1, a1, q1, k.mono t1, x.mono t1⟩, x⟩
theorem t_not (ha : PT X a (lowT X.K W ta)) : PT X (.UnaryOp .Not a pos) (lowT X.K W (dNotT ta)) := pti (pt_not ha) fun σ H Q ⟨ρ, S, Qh, Xh, hσ, hS, h, k, x⟩ =>
  ⟨ρ, S, _, Xh, hσ, hS, h, fun b S1 H1 q1 t1 a1 => k _ S1 H1 q1 t1 a1, x⟩
theorem d_chain {op op' : CmpOp} {r r' : R2} {rd rd' : RD2} (ho : OpR X (compareOp op) r) (hl : LR2 X.K r rd) (ho' : OpR X (compareOp op') r') (hl' : LR2 X.K r' rd') (ha : PE X a (low X.K W da)) (hb : PE X b (low X.K W db)) (hc : PE X c (low X.K W dc))
    (hm : lastMarks [op, op'] [b, c] = false := by with_unfolding_all rfl) : PE X (.Compare a [op, op'] [b, c] pos) (low X.K W (dChain rd rd' da db dc)) :=
  pei (pe_chain ho ho' ha hb hc hm) fun σ H Q ⟨ρ, S, Qh, Xh, hσ, hS, h, k, x⟩ =>
  ⟨ρ, S, _, Xh, hσ, hS, h, fun d1 S1 v1 H1 q1 t1 r1 a1 => ⟨ρ, S1, _, Xh, hσ.mono t1, a1, q1, fun d2 S2 v2 H2 q2 t2 r2 a2 => hl v1 v2 H2 d1 d2 S2 _ _ (r1.mono t2) r2 a2 q2 fun d3 S3 v3 H3 q3 t3 r3 a3 => by
    cases d3 with
    | bl b =>
      refine ⟨b, r3.i_bl, ?_⟩
      cases b with
      | true =>
        refine iteT ⟨ρ, S3, _, Xh, hσ.mono ((t1.trans t2).trans t3), a3, q3, fun d4 S4 v4 H4 q4 t4 r4 a4 => hl' v2 v4 H4 d2 d4 S4 Qh Q (r2.mono (t3.trans t4)) r4 a4 q4 (k.mono (((t1.trans t2).trans t3).trans t4)), x.mono ((t1.trans t2).trans t3)⟩
      | false => exact iteF ((k.mono ((t1.trans t2).trans t3)).now q3 (.bl false) a3)
    | _ => exact q3.elim, x.mono t1⟩, x⟩
theorem t_chain {op op' : CmpOp} {r r' : R2} {rd rd' : RD2} (ho : OpR X (compareOp op) r) (hl : LR2 X.K r rd) (ho' : OpR X (compareOp op') r') (hl' : LR2 X.K r' rd') (ha : PE X a (low X.K W da)) (hb : PE X b (low X.K W db)) (hc : PE X c (low X.K W dc))
    (hm : lastMarks [op, op'] [b, c] = false := by with_unfolding_all rfl) : PT X (.Compare a [op, op'] [b, c] pos) (lowT X.K W (dTest (dChain rd rd' da db dc))) :=
  pti (pt_chain ho ho' ha hb hc hm) fun σ H Q h => by
  obtain ⟨ρ, S, Qh, Xh, hσ, hS, h, k, x⟩ := low_tB h
  exact ⟨ρ, S, _, Xh, hσ, hS, h, fun d1 S1 v1 H1 q1 t1 r1 a1 => ⟨ρ, S1, _, Xh, hσ.mono t1, a1, q1, fun d2 S2 v2 H2 q2 t2 r2 a2 => hl v1 v2 H2 d1 d2 S2 _ _ (r1.mono t2) r2 a2 q2 fun d3 S3 v3 H3 q3 t3 r3 a3 => by
    cases d3 with
    | bl b =>
      refine ⟨b, r3.i_bl, ?_⟩
      cases b with
      | true =>
        refine iteT ⟨ρ, S3, _, Xh, hσ.mono ((t1.trans t2).trans t3), a3, q3, fun d4 S4 v4 H4 q4 t4 r4 a4 => hl' v2 v4 H4 d2 d4 S4 Qh _ (r2.mono (t3.trans t4)) r4 a4 q4 (k.mono (((t1.trans t2).trans t3).trans t4)), x.mono ((t1.trans t2).trans t3)⟩
      | false =>
        exact iteF ((k.mono ((t1.trans t2).trans t3)).now q3 (.bl false) a3)
    | _ => exact q3.elim, x.mono t1⟩, x⟩
end
end VD

namespace VD
open PySem PySem.Spec PyProof.Rows L2

section
variable {K : PySem.W.Frag} {W : WX} {H H1 : Hp} {σ : L2.St} {ρ : Rho}
theorem LkS.lx {Dh : DEnds} {D : Ends} (k : LkS K W H Dh D) (hσ : RepS K H σ ρ) : Lx K W σ H (fun c da S => Dh.ex c da ρ S) := fun c da S' H' q t a => k.ex c da ρ S' σ H' q t (hσ.mono t) a
theorem LkS.nexts {Dh : DEnds} {D : Ends} (k : LkS K W H Dh D) {nh : Rho → Sto → Prop} {n : L2.St → Hp → Prop} (h : LkG K H nh n) : LkS K W H { Dh with nx := nh } { D with nx := n } := ⟨h, k.rt, k.bk, k.ct, k.ex⟩
theorem LkS.loop {Dh : DEnds} {D : Ends} (k : LkS K W H Dh D) {nh : Rho → Sto → Prop} {n : L2.St → Hp → Prop} (h : LkG K H nh n) : LkS K W H { Dh with nx := nh, ct := nh, bk := Dh.nx } { D with nx := n, ct := n, bk := D.nx } := ⟨h, k.rt, k.nx, h, k.ex⟩
theorem LkG.now {Qh : Rho → Sto → Prop} {Q : L2.St → Hp → Prop} (k : LkG K H Qh Q) {S : Sto} (q : Qh ρ S) (r : RepS K H σ ρ) (a : Abs K H S) : Q σ H := k ρ S σ H q (Tk.refl H) r a
end
/-- the ends of a statement as the wish of an expression -/
abbrev DEnds.xd (D : DEnds) (ρ : Rho) : XD := fun c da S => D.ex c da ρ S

section
variable {X : Cx} {W : WX} {st : Stmt} {rest sts body : List Stmt} {a b : DS} {e c : Expr} {de : DE} {dt : DT} {pos : Pos}
def dSeq (a b : DS) : DS := fun D ρ S => a { D with nx := b D } ρ S
def dNext : DS := fun D ρ S => D.nx ρ S
theorem s_nil : PSs X [] (lowS X.K W dNext) := pssi pss_nil fun D σ H ⟨ρ, S, Dh, hσ, hS, h, k⟩ => k.nx.now h hσ hS
theorem s_cons (h1 : PS X st (lowS X.K W a)) (h2 : PSs X rest (lowS X.K W b)) : PSs X (st :: rest) (lowS X.K W (dSeq a b)) := pssi (pss_cons h1 h2) fun D σ H ⟨ρ, S, Dh, hσ, hS, h, k⟩ =>
  ⟨ρ, S, { Dh with nx := b Dh }, hσ, hS, h, k.nexts fun ρ' S' σ' H' q t r a => ⟨ρ', S', Dh, r, a, q, k.mono t⟩⟩
theorem s_one (h1 : PS X st (lowS X.K W a)) : PSs X [st] (lowS X.K W a) := pss_one h1
theorem s_pass : PS X (.Pass pos) (lowS X.K W dNext) := psi ps_pass fun D σ H ⟨ρ, S, Dh, hσ, hS, h, k⟩ => k.nx.now h hσ hS
def dBreak : DS := fun D ρ S => D.bk ρ S
def dCont : DS := fun D ρ S => D.ct ρ S
theorem s_break : PS X (.Break pos) (lowS X.K W dBreak) := psi ps_break fun D σ H ⟨ρ, S, Dh, hσ, hS, h, k⟩ => k.bk.now h hσ hS
theorem s_cont : PS X (.Continue pos) (lowS X.K W dCont) := psi ps_continue fun D σ H ⟨ρ, S, Dh, hσ, hS, h, k⟩ => k.ct.now h hσ hS
def dDrop (de : DE) : DS := fun D ρ S => de ρ S (fun _ S1 => D.nx ρ S1) (D.xd ρ)
theorem s_expr (he : PE X e (low X.K W de)) (hs : swapsWith e none pos.line X.env = pure false := by rfl) : PS X (.Expr e pos) (lowS X.K W (dDrop de)) := psi (ps_expr he hs) fun D σ H ⟨ρ, S, Dh, hσ, hS, h, k⟩ =>
  ⟨ρ, S, _, _, hσ, hS, h, fun d S1 v H1 q t r a => k.nx ρ S1 σ H1 q t (hσ.mono t) a, k.lx hσ⟩
def dRet (de : DE) : DS := fun D ρ S => de ρ S D.rt (D.xd ρ)
theorem s_ret (he : PE X e (low X.K W de)) : PS X (.Return (some e) pos) (lowS X.K W (dRet de)) := psi (ps_ret he) fun D σ H ⟨ρ, S, Dh, hσ, hS, h, k⟩ => ⟨ρ, S, _, _, hσ, hS, h, k.rt, k.lx hσ⟩
def dRetN : DS := fun D _ S => D.rt .non S
theorem s_retN : PS X (.Return none pos) (lowS X.K W dRetN) := psi ps_retN fun D σ H ⟨ρ, S, Dh, hσ, hS, h, k⟩ => k.rt.now h .non hS
def dIfS (c : DT) (t u : DS) : DS := fun D ρ S => c ρ S (fun b S1 => if b = true then t D ρ S1 else u D ρ S1) (D.xd ρ)
theorem s_if {sa sb : List Stmt} (hc : PT X c (lowT X.K W dt)) (ha : PSs X sa (lowS X.K W a)) (hb : PSs X sb (lowS X.K W b)) : PS X (.If c sa sb pos) (lowS X.K W (dIfS dt a b)) := psi (ps_if hc ha hb) fun D σ H ⟨ρ, S, Dh, hσ, hS, h, k⟩ =>
  ⟨ρ, S, _, _, hσ, hS, h, fun bb S1 H1 q t aa => by
    cases bb with
    | true => exact ⟨ρ, S1, Dh, hσ.mono t, aa, q, k.mono t⟩
    | false => exact ⟨ρ, S1, Dh, hσ.mono t, aa, q, k.mono t⟩, k.lx hσ⟩
def dNever : DS := fun _ _ _ => False
theorem s_never : PS X st (lowS X.K W dNever) := psi ps_never fun D σ H ⟨ρ, S, Dh, hσ, hS, h, k⟩ => h.elim

/-! targets -/
abbrev DG := Dv → Rho → Sto → (Rho → Sto → Prop) → Prop
abbrev DGs := List Dv → Rho → Sto → (Rho → Sto → Prop) → Prop
def lowG (K : PySem.W.Frag) (g : DG) : TG := fun v σ H Q => ∃ d ρ S Qh, Rep K H v d ∧ RepS K H σ ρ ∧ Abs K H S ∧ g d ρ S Qh ∧ LkG K H Qh Q
def lowGs (K : PySem.W.Frag) (g : DGs) : TGs := fun vs σ H Q => ∃ ds ρ S Qh, RepL K H vs ds ∧ RepS K H σ ρ ∧ Abs K H S ∧ g ds ρ S Qh ∧ LkG K H Qh Q
def gN (i : Nat) : DG := fun d ρ S Q => Q (ρ.set i (some d)) S
def gNilD : DGs := fun ds ρ S Q => match ds with | [] => Q ρ S | _ => False
def gConsD (g : DG) (r : DGs) : DGs := fun ds ρ S Q => match ds with | d :: t => g d ρ S fun ρ' S' => r t ρ' S' Q | [] => False
def gT (n : Nat) (g : DGs) : DG := fun d ρ S Q => match d with | .tup ds => ds.length = n ∧ g ds ρ S Q | _ => False
variable {tg : Expr} {es : List Expr} {g : DG} {gs : DGs}
theorem pgi {t t' : TG} (h : PG X e t) (i : ∀ v σ H Q, t' v σ H Q → t v σ H Q) : PG X e t' := ⟨fun pins s σ H v u Q I r q => h.run pins s σ H v u Q I r (i v σ H Q q)⟩
theorem pgsi {t t' : TGs} (h : PGs X es t) (i : ∀ v σ H Q, t' v σ H Q → t v σ H Q) : PGs X es t' := ⟨fun pins s σ H v u Q I r q => h.run pins s σ H v u Q I r (i v σ H Q q)⟩
theorem g_name (i : Nat) {x : Str} (hN : X.N.Nodup) (hi : X.N[i]? = some x := by rfl) (hx : Loc X.env.scope x := by first | exact Or.inl rfl | exact Or.inr rfl) (hf : X.fn x = true ∨ X.env.scope.names.lookup x = some .local := by first | exact .inl rfl | exact .inr rfl | assumption) :
    PG X (.Name x pos) (lowG X.K (gN i)) := pgi (pg_name hN hi hx hf) fun v σ H Q ⟨d, ρ, S, Qh, r, hσ, hS, h, k⟩ => k.now h (hσ.set i r) hS
theorem g_nil : PGs X [] (lowGs X.K gNilD) := pgsi pgs_nil fun vs σ H Q ⟨ds, ρ, S, Qh, r, hσ, hS, h, k⟩ => by
  cases ds with
  | nil => exact ⟨r.nil_i, k.now h hσ hS⟩
  | cons d t => exact h.elim
theorem g_cons (h1 : PG X e (lowG X.K g)) (h2 : PGs X es (lowGs X.K gs)) (hs : (assignEach (e :: es) X.env).map (·.2) = assign e X.env :: (assignEach es X.env).map (·.2) := by rfl) : PGs X (e :: es) (lowGs X.K (gConsD g gs)) :=
  pgsi (pgs_cons h1 h2 hs) fun vs σ H Q ⟨ds, ρ, S, Qh, r, hσ, hS, h, k⟩ => by
  cases ds with
  | nil => exact h.elim
  | cons d t =>
    obtain ⟨v, r', rfl, rv, rr⟩ := r.cons_i
    exact ⟨v, r', rfl, d, ρ, S, _, rv, hσ, hS, h, fun ρ' S' σ' H' q tt rs aa => ⟨t, ρ', S', Qh, rr.mono tt, rs, aa, q, k.mono tt⟩⟩
theorem g_tup {kk : Nat} {n : Nat} (hc : X.calm = true) (h : PGs X es (lowGs X.K gs)) (hn : (assignEach es X.env).length = n := by rfl) (hst : (assignEach es X.env).findIdx? (·.1) = none := by rfl) : PG X (.Tuple es kk pos) (lowG X.K (gT n gs)) :=
  pgi (pg_tup hc h hn hst) fun v σ H Q ⟨d, ρ, S, Qh, r, hσ, hS, h, k⟩ => by
  cases d with
  | tup ds =>
    obtain ⟨p, xs, rfl, hq, rl⟩ := r.i_tup
    exact ⟨p, xs, rfl, hq, by rw [rl.length]; exact h.1, ds, ρ, S, Qh, rl, hσ, hS, h.2, k⟩
  | _ => exact h.elim
/-- o[i] = v -/
abbrev RDS := Dv → Dv → Dv → Sto → (Sto → Prop) → Prop
def LRS (K : PySem.W.Frag) (r : TSet) (rd : RDS) : Prop := ∀ o i v H dO dI d S (Qh : Sto → Prop) (Q : Hp → Prop), Rep K H o dO → Rep K H i dI → Rep K H v d → Abs K H S → rd dO dI d S Qh → (∀ S' H', Qh S' → Tk K H H' → Abs K H' S' → Q H') → r o i v H Q
def gSubD (rd : RDS) (dO di : DE) : DG := fun d ρ S Q => dO ρ S (fun o S1 => di ρ S1 (fun i S2 => rd o i d S2 fun S3 => Q ρ S3) X0) X0
theorem lx0 {K : PySem.W.Frag} {σ : L2.St} {H : Hp} : Lx K W σ H X0 := fun _ _ _ _ q => q.elim
theorem g_sub {o i : Expr} {dO di : DE} {r : TSet} {rd : RDS} (hs : PSet X r) (hl : LRS X.K r rd) (ho : PE X o (low X.K W dO)) (hi : PE X i (low X.K W di))
    (ha : ∀ v, assign (.Subscript o i pos) X.env v = (do
      let ov ← holding [v] (eval o X.env)
      let iv ← holding [v, ov] (eval i X.env)
      standAt pos
      holding [v, ov, iv] (setItem ov iv v)
      release [v, ov, iv] []) := by intro _; rfl) : PG X (.Subscript o i pos) (lowG X.K (gSubD rd dO di)) := pgi (pg_sub ho hi hs ha) fun v σ H Q ⟨d, ρ, S, Qh, r, hσ, hS, h, k⟩ =>
  ⟨ρ, S, _, X0, hσ, hS, h, fun d1 S1 v1 H1 q1 t1 r1 a1 => ⟨ρ, S1, _, X0, hσ.mono t1, a1, q1, fun d2 S2 v2 H2 q2 t2 r2 a2 => hl v1 v2 v H2 d1 d2 d S2 _ _ (r1.mono t2) r2 (r.mono (t1.trans t2)) a2 q2 fun S3 H3 q3 t3 a3 =>
    k ρ S3 σ H3 q3 ((t1.trans t2).trans t3) (hσ.mono ((t1.trans t2).trans t3)) a3, lx0⟩, lx0⟩
def dAsg (de : DE) (g : DG) : DS := fun D ρ S => de ρ S (fun d S1 => g d ρ S1 D.nx) (D.xd ρ)
theorem s_asg (he : PE X e (low X.K W de)) (hg : PG X tg (lowG X.K g)) (hs : swapsWithSole [tg] e pos.line X.env = pure false := by rfl) (hw : swappedStores [tg] e X.env = pure none := by rfl)
    (h1 : (assignEach [tg] X.env).map (·.2) = [assign tg X.env] := by rfl) : PS X (.Assign [tg] e pos) (lowS X.K W (dAsg de g)) := psi (ps_asg he hg hs hw h1) fun D σ H ⟨ρ, S, Dh, hσ, hS, h, k⟩ =>
  ⟨ρ, S, _, _, hσ, hS, h, fun d S1 v H1 q t r a => ⟨d, ρ, S1, _, r, hσ.mono t, a, q, k.nx.mono t⟩, k.lx hσ⟩
theorem s_set (i : Nat) {x : Str} {pos' : Pos} (hN : X.N.Nodup) (he : PE X e (low X.K W de)) (hi : X.N[i]? = some x := by rfl) (hx : Loc X.env.scope x := by first | exact Or.inl rfl | exact Or.inr rfl) (hs : swapsWith e (some (.Name x pos')) pos.line X.env = pure false := by rfl)
    (hf : X.fn x = true ∨ X.env.scope.names.lookup x = some .local := by first | exact .inl rfl | exact .inr rfl | assumption) : PS X (.Assign [.Name x pos'] e pos) (lowS X.K W (dAsg de (gN i))) := psi (ps_set hN hi hx he hs hf) fun D σ H ⟨ρ, S, Dh, hσ, hS, h, k⟩ =>
  ⟨ρ, S, _, _, hσ, hS, h, fun d S1 v H1 q t r a => k.nx _ S1 _ H1 q t ((hσ.mono t).set i r) a, k.lx hσ⟩
/-- a, b = x, y (both local names, no cells) -/
def dPar (i j : Nat) (das : DA) : DS := fun D ρ S => das ρ S (fun ds S1 => match ds with | [x, y] => D.nx ((ρ.set i (some x)).set j (some y)) S1 | _ => False) (D.xd ρ)
theorem s_par (i j : Nat) {x y : Str} {ea eb : Expr} {das : DA} {px py pt : Pos} {kt k2 pt2} (hc : X.calm = true) (hN : X.N.Nodup) (ha : PA X [ea, eb] (lowA X.K W das))
    (hw : swappedStores [.Tuple [.Name x px, .Name y py] kt pt] (.Tuple [ea, eb] k2 pt2) X.env = pure (some [x, y])) (hi : X.N[i]? = some x := by rfl) (hj : X.N[j]? = some y := by rfl) (hij : i ≠ j := by decide)
    (hx : X.env.scope.names.lookup x = some .local := by rfl) (hy : X.env.scope.names.lookup y = some .local := by rfl)
    (hs : swapsWithSole [.Tuple [.Name x px, .Name y py] kt pt] (.Tuple [ea, eb] k2 pt2) pos.line X.env = pure false := by rfl) :
    PS X (.Assign [.Tuple [.Name x px, .Name y py] kt pt] (.Tuple [ea, eb] k2 pt2) pos) (lowS X.K W (dPar i j das)) := psi (ps_par hc hN hi hj hij hx hy ha hw hs) fun D σ H ⟨ρ, S, Dh, hσ, hS, h, k⟩ =>
  ⟨ρ, S, _, _, hσ, hS, h, fun ds S1 vs H1 q t r a => by
    match ds, q, r with
    | [d1, d2], q, r =>
      obtain ⟨v1, r1, rfl, h1, r⟩ := r.cons_i
      obtain ⟨v2, r2, rfl, h2, r⟩ := r.cons_i
      rw [r.nil_i]
      exact ⟨v1, v2, rfl, k.nx _ S1 _ H1 q t (((hσ.mono t).set i h1).set j h2) a⟩
    | [], q, _ => exact q.elim
    | [_], q, _ => exact q.elim
    | _ :: _ :: _ :: _, q, _ => exact q.elim, k.lx hσ⟩
/-- x op= e -/
def dAug (i : Nat) (rd : RD2) (de : DE) : DS := fun D ρ S => ∃ x, ρ[i]? = some (some x) ∧ de ρ S (fun y S1 => rd x y S1 fun z S2 => D.nx (ρ.set i (some z)) S2) (D.xd ρ)
theorem s_aug (i : Nat) {x : Str} {op : Operator} {r : R2} {rd : RD2} {pos' : Pos} (hN : X.N.Nodup) (ho : OpR X (inplaceOp op) r) (hl : LR2 X.K r rd) (he : PE X e (low X.K W de)) (hi : X.N[i]? = some x := by rfl) (hx : Loc X.env.scope x := by first | exact Or.inl rfl | exact Or.inr rfl)
    (hf : X.fn x = true ∨ X.env.scope.names.lookup x = some .local := by first | exact .inl rfl | exact .inr rfl | assumption) : PS X (.AugAssign (.Name x pos') op e pos) (lowS X.K W (dAug i rd de)) :=
  psi (ps_aug (ti := r) hN hi hx he (fun pins s σ H x y v u Q I r1 r2 h => ho pins s σ H x y v u Q I r1 r2 h) hf) fun D σ H ⟨ρ, S, Dh, hσ, hS, ⟨x, ex, h⟩, k⟩ => by
  obtain ⟨v, ev, rv⟩ := hσ.at_ i x ex
  exact ⟨v, ev, ρ, S, _, _, hσ, hS, h, fun d S1 v1 H1 q t r1 a => hl v v1 H1 x d S1 _ _ (rv.mono t) r1 a q fun d2 S2 v2 H2 q2 t2 r2 a2 => k.nx _ S2 _ H2 q2 (t.trans t2) ((hσ.mono (t.trans t2)).set i r2) a2, k.lx hσ⟩
/-- o.f = e -/
def putFD (f : Str) (d : Dv) : List (Str × Dv) → List (Str × Dv)
  | [] => [(f, d)]
  | p :: r => if p.1 = f then (f, d) :: r else p :: putFD f d r
theorem repF_put {K : PySem.W.Frag} {H : Hp} {f : Str} {v : V} {d : Dv} (rv : Rep K H v d) : ∀ {gs : List (Str × V)} {fs : List (Str × Dv)}, RepF K H gs fs → RepF K H (L2.putF f v gs) (putFD f d fs)
  | _, _, .nil => .cons ⟨rfl, rv⟩ .nil
  | p :: gs, q :: fs, .cons ⟨e, r⟩ t => by
    unfold L2.putF putFD
    by_cases h : q.1 = f
    · rw [if_pos (e.trans h), if_pos h]
      exact .cons ⟨e.trans h, rv⟩ t
    · rw [if_neg (fun z => h (e.symm.trans z)), if_neg h]
      exact .cons ⟨e, r⟩ (repF_put rv t)
def dSetF (cs : List Addr) (f : Str) (dO de : DE) : DS := fun D ρ S => de ρ S (fun d S1 => dO ρ S1 (fun x S2 => match x with
  | .ref a => match S2 a with
    | some (.ins C dx fs) => C ∈ cs ∧ fs.length < 1000 ∧ D.nx ρ (put S2 a (.ins C dx (putFD f d fs)))
    | _ => False
  | _ => False) (D.xd ρ)) (D.xd ρ)
theorem repF_len {K : PySem.W.Frag} {H : Hp} {gs : List (Str × V)} {fs : List (Str × Dv)} (h : RepF K H gs fs) : gs.length = fs.length := by
  induction h with
  | nil => rfl
  | cons _ _ ih => exact congrArg (· + 1) ih
theorem s_setF {cs : List Addr} {f : Str} {o : Expr} {dO : DE} {pos' : Pos} (hc : ∀ C ∈ cs, Cls X.K C ∧ NoAttr X.K C f) (ho : PE X o (low X.K W dO)) (he : PE X e (low X.K W de)) (hs : swapsWith e (some (.Attribute o f pos')) pos.line X.env = pure false := by rfl) :
    PS X (.Assign [.Attribute o f pos'] e pos) (lowS X.K W (dSetF cs f dO de)) := psi (ps_fld ho he hs) fun D σ H ⟨ρ, S, Dh, hσ, hS, h, k⟩ =>
  ⟨ρ, S, _, _, hσ, hS, h, fun d1 S1 v1 H1 q1 t1 r1 a1 => ⟨ρ, S1, _, _, hσ.mono t1, a1, q1, fun x S2 w H2 q2 t2 r2 a2 => by
    dsimp only at q2
    split at q2
    · rename_i a
      split at q2
      · rename_i C dx fs ea
        obtain ⟨hm, hl, q⟩ := q2
        obtain ⟨gs, h1, h2⟩ := a2 _ _ ea
        obtain ⟨c, n⟩ := hc C hm
        have tw : Tk X.K H2 (upd H2 a (.ins C dx (L2.putF f v1 gs))) := Tk.write h1 wr_ins
        exact ⟨a, C, dx, gs, r2.i_ref, h1, c, n, by rw [repF_len h2]; exact hl, k.nx ρ _ σ _ q (t1.trans (t2.trans tw)) (hσ.mono (t1.trans (t2.trans tw))) (a2.write h1 wr_ins (.mins upd_same ((repF_put (r1.mono t2) h2).mono tw)))⟩
      · exact q2.elim
    · exact q2.elim, (k.mono t1).lx (hσ.mono t1)⟩, k.lx hσ⟩
end

/-! loops -/
abbrev DI := Rho → Sto → (List Dv → (Sto → Prop) → Sto → Prop) → XD → Prop
structure ItD (K : PySem.W.Frag) (H0 : Hp) (J : It) (items : List Dv) (stay : Sto → Prop) : Prop where
  go : ∀ i H S x, Tk K H0 H → Abs K H S → stay S → items[i]? = some x → J.go i H ∧ ∀ v H', J.yld i H v H' → Tk K H H' ∧ Rep K H' v x ∧ Abs K H' S
  stop : ∀ H S, Tk K H0 H → Abs K H S → stay S → J.stop items.length H
def LkI (K : PySem.W.Frag) (H : Hp) (Rh : List Dv → (Sto → Prop) → Sto → Prop) (R : It → Hp → Prop) : Prop := ∀ items stay S' J H', Rh items stay S' → Tk K H H' → Abs K H' S' → ItD K H' J items stay → R J H'
theorem LkI.mono {K : PySem.W.Frag} {H H1 : Hp} {Rh : List Dv → (Sto → Prop) → Sto → Prop} {R : It → Hp → Prop} (k : LkI K H Rh R) (t : Tk K H H1) : LkI K H1 Rh R := fun i s S J H' q t' => k i s S J H' q (t.trans t')
def lowI (K : PySem.W.Frag) (W : WX) (di : DI) : TI := fun σ H R => ∃ ρ S Rh Xh, RepS K H σ ρ ∧ Abs K H S ∧ di ρ S Rh Xh ∧ LkI K H Rh R ∧ Lx K W σ H Xh
def ForGo (g : DG) (tb : DS) (D : DEnds) (ρ : Rho) (items : List Dv) (stay : Sto → Prop) (S1 : Sto) : Prop := ∃ Wv : Nat → Rho → Sto → Prop, Wv 0 ρ S1 ∧ (∀ i ρ S, i ≤ items.length → Wv i ρ S → stay S) ∧
  (∀ i x ρ S, items[i]? = some x → Wv i ρ S → g x ρ S fun ρ2 S2 => tb { D with nx := Wv (i + 1), ct := Wv (i + 1), bk := D.nx } ρ2 S2) ∧ ∀ ρ S, Wv items.length ρ S → D.nx ρ S
def dFor (di : DI) (g : DG) (tb : DS) : DS := fun D ρ S => di ρ S (fun items stay S1 => ForGo g tb D ρ items stay S1) (D.xd ρ)
section
variable {X : Cx} {W : WX} {tg iter c : Expr} {body : List Stmt} {di : DI} {g : DG} {tb : DS} {dt : DT} {pos : Pos}
theorem s_for (hp : PassesOwn (model X.prog X.w) X.A X.env X.xe) (hc : X.calm = true) (hi : PI X tg iter (lowI X.K W di)) (hg : PG X tg (lowG X.K g)) (hb : PSs X body (lowS X.K W tb))
    (hs : ∀ x, foldedSetIterable iter X.env x = pure x := by intro _; rfl) : PS X (.For tg iter body [] pos) (lowS X.K W (dFor di g tb)) := psi (ps_for hp hc hi hg hb hs) fun D σ H ⟨ρ, S, Dh, hσ, hS, h, k⟩ => by
  refine ⟨ρ, S, _, _, hσ, hS, h, fun items stay S1 J H1 q t1 a1 it => ?_, k.lx hσ⟩
  obtain ⟨Wv, w0, st, step, done⟩ := q
  refine ⟨fun i m σ' H' => m = items.length - i ∧ i ≤ items.length ∧ Tk X.K H1 H' ∧ ∃ ρ' S', RepS X.K H' σ' ρ' ∧ Abs X.K H' S' ∧ Wv i ρ' S', ⟨_, rfl, Nat.zero_le _, Tk.refl _, ρ, S1, hσ.mono t1, a1, w0⟩, ?_⟩
  rintro i m σ' H' ⟨rfl, hi, t2, ρ', S', hσ', a2, w⟩
  by_cases hlt : i < items.length
  · obtain ⟨g1, g2⟩ := it.go i H' S' items[i] t2 a2 (st i ρ' S' hi w) (by simp [hlt])
    refine .inr ⟨g1, fun σ' H' => Tk X.K H1 H' ∧ ∃ ρ' S', RepS X.K H' σ' ρ' ∧ Abs X.K H' S' ∧ Wv (i + 1) ρ' S', fun σ3 H3 ⟨t3, z⟩ => ⟨items.length - (i + 1), by omega, rfl, hlt, t3, z⟩, fun x H3 y => ?_⟩
    obtain ⟨t3, r3, a3⟩ := g2 x H3 y
    refine ⟨items[i], ρ', S', _, r3, hσ'.mono t3, a3, step i _ ρ' S' (by simp [hlt]) w, fun ρ4 S4 σ4 H4 q4 t4 r4 a4 => ⟨ρ4, S4, _, r4, a4, q4, ((((k.mono t1).mono t2).mono t3).mono t4).loop ?_⟩⟩
    exact fun ρ5 S5 σ5 H5 q5 t5 r5 a5 => ⟨((t2.trans t3).trans t4).trans t5, ρ5, S5, r5, a5, q5⟩
  · have e : i = items.length := by omega
    subst e
    exact .inl ⟨it.stop H' S' t2 a2 (st _ ρ' S' hi w), k.nx ρ' S' σ' H' (done ρ' S' w) (t1.trans t2) hσ' a2⟩
def dWhile (c : DT) (tb : DS) : DS := fun D ρ S => ∃ Wv : Nat → Rho → Sto → Prop, (∃ m, Wv m ρ S) ∧ ∀ m ρ S, Wv m ρ S →
  c ρ S (fun b S1 => if b = true then tb { D with nx := fun ρ' S' => ∃ m', m' < m ∧ Wv m' ρ' S', ct := fun ρ' S' => ∃ m', m' < m ∧ Wv m' ρ' S', bk := D.nx } ρ S1 else D.nx ρ S1) (D.xd ρ)
theorem s_while (hp : PassesOwn (model X.prog X.w) X.A X.env X.xe) (hc : PT X c (lowT X.K W dt)) (hb : PSs X body (lowS X.K W tb)) : PS X (.While c body [] pos) (lowS X.K W (dWhile dt tb)) := psi (ps_while hp hc hb) fun D σ H ⟨ρ, S, Dh, hσ, hS, h, k⟩ => by
  obtain ⟨Wv, ⟨m0, w0⟩, step⟩ := h
  refine ⟨fun m σ' H' => Tk X.K H H' ∧ ∃ ρ' S', RepS X.K H' σ' ρ' ∧ Abs X.K H' S' ∧ Wv m ρ' S', ⟨m0, Tk.refl _, ρ, S, hσ, hS, w0⟩, ?_⟩
  rintro m σ' H' ⟨t, ρ', S', hσ', a', w⟩
  refine ⟨ρ', S', _, _, hσ', a', step m ρ' S' w, fun b S1 H1 q t1 a1 => ?_, (k.mono t).lx hσ'⟩
  cases b with
  | true =>
    refine iteT ⟨fun σ2 H2 => Tk X.K H H2 ∧ ∃ m', m' < m ∧ ∃ ρ' S', RepS X.K H2 σ2 ρ' ∧ Abs X.K H2 S' ∧ Wv m' ρ' S', fun σ2 H2 ⟨t2, m', lt, z⟩ => ⟨m', lt, t2, z⟩, ρ', S1, _, hσ'.mono t1, a1, q, ((k.mono t).mono t1).loop ?_⟩
    exact fun ρ5 S5 σ5 H5 ⟨m', lt, q5⟩ t5 r5 a5 => ⟨(t.trans t1).trans t5, m', lt, ρ5, S5, r5, a5, q5⟩
  | false => exact iteF ((k.mono t).nx ρ' S1 σ' H1 q t1 (hσ'.mono t1) a1)

/-! what is walked -/
theorem pii {wi wi' : TI} (h : PI X tg iter wi) (i : ∀ σ H R, wi' σ H R → wi σ H R) : PI X tg iter wi' := ⟨fun pins s σ H R I q => h.run pins s σ H R I (i σ H R q)⟩
/-- over a list or a tuple -/
def iSeq (de : DE) : DI := fun ρ S R X => de ρ S (fun d S1 => match d with
  | .tup ds => R ds (fun _ => True) S1
  | .rol ds => R ds (fun _ => True) S1
  | .ref a => ∃ ds, S1 a = some (.lst ds) ∧ R ds (fun S => S a = some (.lst ds)) S1
  | _ => False) X
theorem sqT_inj {K : PySem.W.Frag} {H : Hp} {a : Addr} {xs ys : List V} {I : Prop} (h : SqT K H a xs) (hx : ∀ zs, SqT K H a zs → zs = xs) (g : SqT K H a ys) : ys = xs := hx ys g
/-- the tuple at a, walked -/
theorem it_tup {K : PySem.W.Frag} {H0 : Hp} {a : Addr} {xs : List V} {ds : List Dv} (h : SqT K H0 a xs) (r : RepL K H0 xs ds) : ItD K H0 (Itt K a) ds (fun _ => True) := by
  refine ⟨fun i H S x t ha _ hx => ?_, fun H S t ha _ => ⟨xs, t.t _ _ h, by rw [r.length]; exact Nat.le_refl _⟩⟩
  obtain ⟨v, hv, rv⟩ := r.get hx
  refine ⟨⟨xs, v, t.t _ _ h, hv⟩, fun v' H' ⟨e, y⟩ => ?_⟩
  subst e
  have e2 := y xs (t.t _ _ h)
  rw [hv] at e2
  cases e2
  exact ⟨Tk.refl _, rv.mono t, ha⟩
theorem it_rol {K : PySem.W.Frag} {H0 : Hp} {a : Addr} {xs : List V} {ds : List Dv} (h : CL K H0 a xs) (r : RepL K H0 xs ds) : ItD K H0 (Itl K a) ds (fun _ => True) := by
  refine ⟨fun i H S x t ha _ hx => ?_, fun H S t ha _ => ⟨xs, (t.c _ _ h).sq, by rw [r.length]; exact Nat.le_refl _⟩⟩
  obtain ⟨v, hv, rv⟩ := r.get hx
  refine ⟨⟨xs, v, (t.c _ _ h).sq, hv⟩, fun v' H' ⟨e, y⟩ => ?_⟩
  subst e
  have e2 := y xs (t.c _ _ h).sq
  rw [hv] at e2
  cases e2
  exact ⟨Tk.refl _, rv.mono t, ha⟩
theorem it_lst {K : PySem.W.Frag} {H0 : Hp} {a : Addr} {ds : List Dv} : ItD K H0 (Itl K a) ds (fun S => S a = some (.lst ds)) := by
  refine ⟨fun i H S x t ha st hx => ?_, fun H S t ha st => ?_⟩
  · obtain ⟨xs, h1, h2⟩ := ha a _ st
    obtain ⟨v, hv, rv⟩ := h2.get hx
    refine ⟨⟨xs, v, .inl (.inl h1), hv⟩, fun v' H' ⟨e, y⟩ => ?_⟩
    subst e
    have e2 := y xs (.inl (.inl h1))
    rw [hv] at e2
    cases e2
    exact ⟨Tk.refl _, rv, ha⟩
  · obtain ⟨xs, h1, h2⟩ := ha a _ st
    exact ⟨xs, .inl (.inl h1), by rw [h2.length]; exact Nat.le_refl _⟩
def iTupD (de : DE) : DI := fun ρ S R X => de ρ S (fun d S1 => match d with | .tup ds => R ds (fun _ => True) S1 | _ => False) X
theorem i_tup {e : Expr} {de : DE} (he : PE X e (low X.K W de)) : PI X tg e (lowI X.K W (iTupD de)) := pii (pi_tup he) fun σ H R ⟨ρ, S, Rh, Xh, hσ, hS, h, k, x⟩ =>
  ⟨ρ, S, _, Xh, hσ, hS, h, fun d S1 v H1 q t r a => by
    cases d with
    | tup ds =>
      obtain ⟨p, xs, rfl, hq, rl⟩ := r.i_tup
      exact ⟨p, rfl, ⟨xs, hq⟩, k ds _ S1 _ H1 q t a (it_tup hq rl)⟩
    | _ => exact q.elim, x⟩
def iLstD (de : DE) : DI := fun ρ S R X => de ρ S (fun d S1 => match d with
  | .rol ds => R ds (fun _ => True) S1
  | .ref a => match S1 a with | some (.lst ds) => R ds (fun S => S a = some (.lst ds)) S1 | _ => False
  | _ => False) X
theorem i_lst {e : Expr} {de : DE} (he : PE X e (low X.K W de)) : PI X tg e (lowI X.K W (iLstD de)) := pii (pi_list he) fun σ H R ⟨ρ, S, Rh, Xh, hσ, hS, h, k, x⟩ =>
  ⟨ρ, S, _, Xh, hσ, hS, h, fun d S1 v H1 q t r a => by
    cases d with
    | rol ds =>
      obtain ⟨p, xs, rfl, hq, rl⟩ := r.i_rol
      exact ⟨p, rfl, ⟨xs, hq.sq⟩, k ds _ S1 _ H1 q t a (it_rol hq rl)⟩
    | ref p =>
      have q : (match S1 p with | some (.lst ds) => Rh ds (fun S => S p = some (.lst ds)) S1 | _ => False) := q
      cases e : S1 p with
      | none => rw [e] at q; exact q.elim
      | some m =>
        rw [e] at q
        cases m with
        | lst ds =>
          obtain ⟨xs, h1, h2⟩ := a p _ e
          exact ⟨p, r.i_ref, ⟨xs, .inl (.inl h1)⟩, k ds _ S1 _ H1 q t a it_lst⟩
        | _ => exact q.elim
    | _ => exact q.elim, x⟩
/-- over a list, a tuple, a text: by the value -/
def iSeqD (de : DE) : DI := fun ρ S R X => de ρ S (fun d S1 => match d with
  | .tup ds => R ds (fun _ => True) S1
  | .rol ds => R ds (fun _ => True) S1
  | .ref a => match S1 a with | some (.lst ds) => R ds (fun S => S a = some (.lst ds)) S1 | _ => False
  | _ => False) X
theorem i_seq {e : Expr} {de : DE} (he : PE X e (low X.K W de)) : PI X tg e (lowI X.K W (iSeqD de)) := by
  refine ⟨fun pins s σ H R I ⟨ρ, S, Rh, Xh, hσ, hS, h, k, x⟩ => ?_⟩
  have lst : ∀ {a : Addr} {xs : List V} {H1 : Hp} {s1 : Shared}, Inv X pins σ H1 s1 → SqL X.K H1 a xs → R (Itl X.K a) H1 → wpAny (model X.prog X.w) X.A (pyIter (.ref a)) (PIE X pins σ tg R) X.xe s1 := by
    intro a xs H1 s1 I1 hq q
    obtain ⟨its, rv, p, hz⟩ := I1.list hq
    refine wpAny_pyIter_list p.isList ?_
    refine ⟨s1.heap.objs.size, [s1.heap.objs.size], _, _, H1, rfl, I1.kept (t' := s1.toks) fun b o e => Heap.get?_push_of_some _ e, turn_list a _, ⟨_, Heap.get?_push_size _ rfl, rfl, rfl⟩, fun b hb => ?_, q⟩
    have e : b = s1.heap.objs.size := by simpa using hb
    subst e
    exact I1.fpOk (Nat.le_refl _) (I1.hok.fresh (Nat.le_refl _))
  have tup : ∀ {a : Addr} {xs : List V} {H1 : Hp} {s1 : Shared}, Inv X pins σ H1 s1 → SqT X.K H1 a xs → R (Itt X.K a) H1 → wpAny (model X.prog X.w) X.A (pyIter (.ref a)) (PIE X pins σ tg R) X.xe s1 := by
    intro a xs H1 s1 I1 hq q
    obtain ⟨its, rv, p, hz⟩ := I1.tuple hq
    refine wpAny_pyIter_tuple (show s1.heap.IsTuple a its.toArray from p) ?_
    refine ⟨s1.heap.objs.size, [s1.heap.objs.size], _, _, H1, rfl, I1.kept (t' := s1.toks) fun b o e => Heap.get?_push_of_some _ e, turn_tuple a _, ⟨_, Heap.get?_push_size _ rfl, rfl, rfl⟩, fun b hb => ?_, q⟩
    have e : b = s1.heap.objs.size := by simpa using hb
    subst e
    exact I1.fpOk (Nat.le_refl _) (I1.hok.fresh (Nat.le_refl _))
  refine thn (he.run pins s σ H (fun v H1 => ∃ a, v = .ref a ∧ ((∃ xs, SqL X.K H1 a xs ∧ R (Itl X.K a) H1) ∨ (∃ xs, SqT X.K H1 a xs ∧ R (Itt X.K a) H1))) I ⟨ρ, S, _, Xh, hσ, hS, h, fun d S1 v H1 q t r a => ?_, x⟩) fun v s1 ⟨y, H1, I1, r1, a, e, q1⟩ => ?_
  · cases d with
    | tup ds =>
      obtain ⟨p, xs, rfl, hq, rl⟩ := r.i_tup
      exact ⟨p, rfl, .inr ⟨xs, hq, k ds _ S1 _ H1 q t a (it_tup hq rl)⟩⟩
    | rol ds =>
      obtain ⟨p, xs, rfl, hq, rl⟩ := r.i_rol
      exact ⟨p, rfl, .inl ⟨xs, hq.sq, k ds _ S1 _ H1 q t a (it_rol hq rl)⟩⟩
    | ref p =>
      have q : (match S1 p with | some (.lst ds) => Rh ds (fun S => S p = some (.lst ds)) S1 | _ => False) := q
      cases e : S1 p with
      | none => rw [e] at q; exact q.elim
      | some m =>
        rw [e] at q
        cases m with
        | lst ds =>
          obtain ⟨xs, h1, h2⟩ := a p _ e
          exact ⟨p, r.i_ref, .inl ⟨xs, .inl (.inl h1), k ds _ S1 _ H1 q t a it_lst⟩⟩
        | _ => exact q.elim
    | _ => exact q.elim
  · subst e
    cases r1
    rcases q1 with ⟨xs, hq, q⟩ | ⟨xs, hq, q⟩
    · exact lst I1 hq q
    · exact tup I1 hq q
/-- range(n), range(a, b), range(a, b, c) -/
def rangeL (lo : Int) (n : Nat) (c : Int) : List Dv := (List.range n).map fun (i : Nat) => Dv.int (lo + (i : Int) * c)
theorem rangeL_get {lo c : Int} {n i : Nat} {x : Dv} (h : (rangeL lo n c)[i]? = some x) : i < n ∧ x = .int (lo + (i : Int) * c) := by
  unfold rangeL at h
  rw [List.getElem?_map, Option.map_eq_some_iff] at h
  obtain ⟨j, h1, h2⟩ := h
  rw [List.getElem?_eq_some_iff] at h1
  obtain ⟨h3, h4⟩ := h1
  rw [List.getElem_range] at h4
  subst h4
  exact ⟨by simpa using h3, h2.symm⟩
theorem rangeL_len {lo c : Int} {n : Nat} : (rangeL lo n c).length = n := by unfold rangeL; simp
theorem it_rng {K : PySem.W.Frag} {H0 : Hp} {lo : Int} {n : Nat} : ItD K H0 (Itr lo n) (rangeL lo n 1) (fun _ => True) := by
  refine ⟨fun i H S x t ha st hx => ?_, fun H S t ha st => by rw [rangeL_len]; exact Nat.le_refl _⟩
  obtain ⟨h1, rfl⟩ := rangeL_get hx
  refine ⟨h1, fun v' H' ⟨e, y⟩ => ?_⟩
  subst e y
  exact ⟨Tk.refl _, by rw [Int.mul_one]; exact .int _, ha⟩
theorem it_rngC {K : PySem.W.Frag} {H0 : Hp} {lo c : Int} {n : Nat} : ItD K H0 (Itc lo c n) (rangeL lo n c) (fun _ => True) := by
  refine ⟨fun i H S x t ha st hx => ?_, fun H S t ha st => by rw [rangeL_len]; exact Nat.le_refl _⟩
  obtain ⟨h1, rfl⟩ := rangeL_get hx
  refine ⟨h1, fun v' H' ⟨e, y⟩ => ?_⟩
  subst e y
  exact ⟨Tk.refl _, .int _, ha⟩
def iR1 (das : DA) : DI := fun ρ S R X => das ρ S (fun ds S1 => match ds with | [.int j] => R (rangeL 0 j.toNat 1) (fun _ => True) S1 | _ => False) X
def iR2 (das : DA) : DI := fun ρ S R X => das ρ S (fun ds S1 => match ds with | [.int i, .int j] => R (rangeL i (j - i).toNat 1) (fun _ => True) S1 | _ => False) X
def iR3 (das : DA) : DI := fun ρ S R X => das ρ S (fun ds S1 => match ds with | [.int i, .int j, .int c] => ∃ n, RgC i j c n ∧ R (rangeL i n c) (fun _ => True) S1 | _ => False) X
theorem i_r1 {a : Expr} {p : Pos} {das : DA} (hm : X.mg "range" = none) (ha : PA X [a] (lowA X.K W das)) (hg : Gl X "range" := by rfl) (hs : starEach [a] X.env = [(false, eval a X.env)] := by rfl) : PI X tg (.Call (.Name "range" p) [a] [] pos) (lowI X.K W (iR1 das)) :=
  pii (pi_rangeA1 hg hm ha hs) fun σ H R ⟨ρ, S, Rh, Xh, hσ, hS, h, k, x⟩ => ⟨ρ, S, _, Xh, hσ, hS, h, fun ds S1 vs H1 q t r a => by
    match ds, q, r with
    | [.int j], q, r =>
      obtain ⟨v1, r1, rfl, h1, r⟩ := r.cons_i
      rw [r.nil_i, h1.i_int]
      exact ⟨j, rfl, k _ _ S1 _ H1 q t a it_rng⟩, x⟩
theorem i_r2 {a b : Expr} {p : Pos} {das : DA} (hm : X.mg "range" = none) (ha : PA X [a, b] (lowA X.K W das)) (hg : Gl X "range" := by rfl) (hs : starEach [a, b] X.env = [(false, eval a X.env), (false, eval b X.env)] := by rfl) (hs2 : starEach [b] X.env = [(false, eval b X.env)] := by rfl) :
    PI X tg (.Call (.Name "range" p) [a, b] [] pos) (lowI X.K W (iR2 das)) :=
  pii (pi_rangeA2 hg hm ha hs hs2) fun σ H R ⟨ρ, S, Rh, Xh, hσ, hS, h, k, x⟩ => ⟨ρ, S, _, Xh, hσ, hS, h, fun ds S1 vs H1 q t r a => by
    match ds, q, r with
    | [.int i, .int j], q, r =>
      obtain ⟨v1, r1, rfl, h1, r⟩ := r.cons_i
      obtain ⟨v2, r2, rfl, h2, r⟩ := r.cons_i
      rw [r.nil_i, h1.i_int, h2.i_int]
      exact ⟨i, j, rfl, k _ _ S1 _ H1 q t a it_rng⟩, x⟩
theorem i_r3 {a b c : Expr} {p : Pos} {das : DA} (hm : X.mg "range" = none) (ha : PA X [a, b, c] (lowA X.K W das)) (hg : Gl X "range" := by rfl) (h0 : starEach [a, b, c] X.env = (false, eval a X.env) :: starEach [b, c] X.env := by rfl) (h1 : (backTo pos (starEach [b, c] X.env)).any (·.1) = false := by rfl) :
    PI X tg (.Call (.Name "range" p) [a, b, c] [] pos) (lowI X.K W (iR3 das)) :=
  pii (pi_range3 hg hm ha h0 h1) fun σ H R ⟨ρ, S, Rh, Xh, hσ, hS, h, k, x⟩ => ⟨ρ, S, _, Xh, hσ, hS, h, fun ds S1 vs H1 q t r a => by
    match ds, q, r with
    | [.int i, .int j, .int c], q, r =>
      obtain ⟨v1, r1, rfl, h1, r⟩ := r.cons_i
      obtain ⟨v2, r2, rfl, h2, r⟩ := r.cons_i
      obtain ⟨v3, r3, rfl, h3, r⟩ := r.cons_i
      rw [r.nil_i, h1.i_int, h2.i_int, h3.i_int]
      obtain ⟨n, g, q⟩ := q
      exact ⟨i, j, c, n, rfl, g, k _ _ S1 _ H1 q t a it_rngC⟩, x⟩
def iStrD (de : DE) : DI := fun ρ S R X => de ρ S (fun d S1 => match d with | .str x => R (x.cps.toList.map fun c => Dv.str ⟨#[c]⟩) (fun _ => True) S1 | _ => False) X
theorem i_str {e : Expr} {de : DE} (he : PE X e (low X.K W de)) : PI X tg e (lowI X.K W (iStrD de)) := pii (pi_str he) fun σ H R ⟨ρ, S, Rh, Xh, hσ, hS, h, k, x⟩ =>
  ⟨ρ, S, _, Xh, hσ, hS, h, fun d S1 v H1 q t r a => by
    cases d with
    | str z =>
      refine ⟨z, r.i_str, k _ _ S1 _ H1 q t a ⟨fun i H S x t ha st hx => ?_, fun H S t ha st => by simp [Its]⟩⟩
      rw [List.getElem?_map, Option.map_eq_some_iff] at hx
      obtain ⟨c, h1, rfl⟩ := hx
      rw [Array.getElem?_toList] at h1
      refine ⟨(Array.getElem?_eq_some_iff.mp h1).1, fun v' H' ⟨e, c', h2, e2⟩ => ?_⟩
      subst e e2
      rw [h1] at h2
      cases h2
      exact ⟨Tk.refl _, .str _, ha⟩
    | _ => exact q.elim, x⟩
end

/-! comprehensions -/
/-- a target of names alone, put back behind -/
def NG (K : PySem.W.Frag) (g : TG) (dg : DG) (vs : List Nat) : Prop := ∀ v d σ H ρ S Qh (Q : L2.St → Hp → Prop), Rep K H v d → RepS K H σ ρ → Abs K H S → dg d ρ S Qh → (∀ ρ' S' σ' H', Qh ρ' S' → Tk K H H' → RepS K H' σ' ρ' → Abs K H' S' → L2.wipe σ' vs = L2.wipe σ vs → Q σ' H') → g v σ H Q
def NGs (K : PySem.W.Frag) (g : TGs) (dg : DGs) (vs : List Nat) : Prop := ∀ xs ds σ H ρ S Qh (Q : L2.St → Hp → Prop), RepL K H xs ds → RepS K H σ ρ → Abs K H S → dg ds ρ S Qh → (∀ ρ' S' σ' H', Qh ρ' S' → Tk K H H' → RepS K H' σ' ρ' → Abs K H' S' → L2.wipe σ' vs = L2.wipe σ vs → Q σ' H') → g xs σ H Q
theorem wipe_set (σ : L2.St) (i : Nat) (x : Option V) : ∀ vs : List Nat, i ∈ vs → L2.wipe (σ.set i x) vs = L2.wipe σ vs
  | [], h => by cases h
  | v :: vs, h => by
    have wc : ∀ (l : List Nat) (τ : L2.St), L2.wipe (τ.set i x) l = if i ∈ l then L2.wipe τ l else (L2.wipe τ l).set i x := by
      intro l
      induction l with
      | nil => intro τ; simp [L2.wipe]
      | cons w l ih =>
        intro τ
        unfold L2.wipe
        rw [ih τ]
        by_cases hm : i ∈ l
        · simp [hm]
        · by_cases hw : i = w
          · subst hw; simp [hm, List.set_set]
          · simp [hm, hw, List.set_comm _ _ hw]
    rw [wc (v :: vs) σ, if_pos h]
theorem ng_name {K : PySem.W.Frag} {i : Nat} {vs : List Nat} (h : i ∈ vs) : NG K (gName i) (gN i) vs := fun v d σ H ρ S Qh Q r hσ hS q k => k _ S _ H q (Tk.refl H) (hσ.set i r) hS (wipe_set σ i _ vs h)
theorem ngs_nil {K : PySem.W.Frag} {vs : List Nat} : NGs K gNil gNilD vs := fun xs ds σ H ρ S Qh Q r hσ hS q k => by
  cases ds with
  | nil => exact ⟨r.nil_i, k _ S _ H q (Tk.refl H) hσ hS rfl⟩
  | cons d t => exact q.elim
theorem ngs_cons {K : PySem.W.Frag} {vs : List Nat} {g : TG} {dg : DG} {gs : TGs} {dgs : DGs} (h : NG K g dg vs) (hs : NGs K gs dgs vs) : NGs K (gCons g gs) (gConsD dg dgs) vs := fun xs ds σ H ρ S Qh Q r hσ hS q k => by
  cases ds with
  | nil => exact q.elim
  | cons d t =>
    obtain ⟨v, r', rfl, rv, rr⟩ := r.cons_i
    refine ⟨v, r', rfl, h v d σ H ρ S _ _ rv hσ hS q fun ρ1 S1 σ1 H1 q1 t1 r1 a1 e1 => hs r' t σ1 H1 ρ1 S1 Qh Q (rr.mono t1) r1 a1 q1 fun ρ2 S2 σ2 H2 q2 t2 r2 a2 e2 => k ρ2 S2 σ2 H2 q2 (t1.trans t2) r2 a2 (e2.trans e1)⟩
theorem ng_tup {K : PySem.W.Frag} {vs : List Nat} {gs : TGs} {dgs : DGs} {n : Nat} (hs : NGs K gs dgs vs) : NG K (gTup K n gs) (gT n dgs) vs := fun v d σ H ρ S Qh Q r hσ hS q k => by
  cases d with
  | tup ds =>
    obtain ⟨p, xs, rfl, hq, rl⟩ := r.i_tup
    exact ⟨p, xs, rfl, hq, by rw [rl.length]; exact q.1, hs xs ds σ H ρ S Qh Q rl hσ hS q.2 k⟩
  | _ => exact q.elim
def dYes : DT := fun _ S Q _ => Q true S
theorem c_nil {X : Cx} {W : WX} : PTs X [] (lowT X.K W dYes) := ⟨fun pins s σ H Q I ⟨ρ, S, Qh, Xh, hσ, hS, h, k, x⟩ => pts_nil.run pins s σ H Q I (k true S H h (Tk.refl H) hS)⟩
theorem c_one {X : Cx} {W : WX} {c : Expr} {dt : DT} (h : PT X c (lowT X.K W dt)) : PTs X [c] (lowT X.K W dt) := pts_one h
def LcGo (g : DG) (tt : DT) (te : DE) (vs : List Nat) (ρ : Rho) (Q : QD) (items : List Dv) (stay : Sto → Prop) (S1 : Sto) : Prop := ∀ p, S1 p = none → ∃ Wv : Nat → Sto → Prop, Wv 0 (put S1 p (.lst [])) ∧ (∀ i S, i ≤ items.length → Wv i S → stay S) ∧
  (∀ i x S, items[i]? = some x → Wv i S → g x (wipeD ρ vs) S fun ρ2 S2 => tt ρ2 S2 (fun b S3 => if b = true then te ρ2 S3 (fun y S4 => ∃ acc, S4 p = some (.lst acc) ∧ acc.length < sizeLine ∧ Wv (i + 1) (put S4 p (.lst (acc ++ [y])))) X0 else Wv (i + 1) S3) X0) ∧
  ∀ S, Wv items.length S → Q (.ref p) S
def dLc (di : DI) (g : DG) (tt : DT) (te : DE) (vs : List Nat) : DE := fun ρ S Q X => di ρ S (fun items stay S1 => LcGo g tt te vs ρ Q items stay S1) X
section
variable {X : Cx} {W : WX} {tg iter elt : Expr} {ifs : List Expr} {di : DI} {g : TG} {dg : DG} {dt : DT} {de : DE} {scope : Scope} {own : List (Str × Nat)} {pos spos : Pos}
theorem low_lc {K : PySem.W.Frag} {vs : List Nat} (ng : NG K g dg vs) : ∀ σ H Q, low K W (dLc di dg dt de vs) σ H Q → tLc (lowI K W di) g (lowT K W0 dt) (low K W0 de) vs σ H Q := fun σ H Q ⟨ρ, S, Qh, Xh, hσ, hS, h, k, x⟩ => by
  refine ⟨ρ, S, _, Xh, hσ, hS, h, fun items stay S1 J H1 q t1 a1 it p hp => ?_, x⟩
  obtain ⟨Wv, w0, st, step, done⟩ := q p (a1.free hp)
  refine ⟨fun i m H' => m = items.length - i ∧ i ≤ items.length ∧ Tk K H1 H' ∧ ∃ S', Abs K H' S' ∧ Wv i S', ⟨_, rfl, Nat.zero_le _, Tk.new hp, _, a1.new hp (.mlst upd_same .nil), w0⟩, ?_⟩
  rintro i m H' ⟨rfl, hi, t2, S', a2, w⟩
  by_cases hlt : i < items.length
  · obtain ⟨g1, g2⟩ := it.go i H' S' items[i] t2 a2 (st i S' hi w) (by simp [hlt])
    refine .inr ⟨g1, fun H' => Tk K H1 H' ∧ ∃ S', Abs K H' S' ∧ Wv (i + 1) S', fun H3 ⟨t3, z⟩ => ⟨items.length - (i + 1), by omega, rfl, hlt, t3, z⟩, fun v H3 y => ?_⟩
    obtain ⟨t3, r3, a3⟩ := g2 v H3 y
    have hw : RepS K H3 (L2.wipe σ vs) (wipeD ρ vs) := (hσ.mono (t1.trans (t2.trans t3))).wipe vs
    refine ng v items[i] (L2.wipe σ vs) H3 (wipeD ρ vs) S' _ _ r3 hw a3 (step i _ S' (by simp [hlt]) w) fun ρ4 S4 σ4 H4 q4 t4 r4 a4 e4 => ⟨e4.trans ?_, ρ4, S4, _, X0, r4, a4, q4, fun b S5 H5 q5 t5 a5 => ?_, lx0⟩
    · clear e4 r4 a4 q4 step st done it k x w hw
      have idem : ∀ (l : List Nat) (τ : L2.St) (j : Nat), j ∈ l → (L2.wipe τ l).set j none = L2.wipe τ l := by
        intro l
        induction l with
        | nil => intro τ j h; cases h
        | cons w l ih =>
          intro τ j h
          unfold L2.wipe
          by_cases hj : j = w
          · subst hj; rw [List.set_set]
          · rw [List.set_comm _ _ (Ne.symm hj), ih τ j ((List.mem_cons.mp h).resolve_left hj)]
      have all : ∀ (l m : List Nat) (τ : L2.St), (∀ j ∈ l, j ∈ m) → L2.wipe (L2.wipe τ m) l = L2.wipe τ m := by
        intro l
        induction l with
        | nil => intro m τ _; rfl
        | cons w l ih =>
          intro m τ h
          show (L2.wipe (L2.wipe τ m) l).set w none = _
          rw [ih m τ fun j hj => h j (List.mem_cons_of_mem _ hj)]
          exact idem m τ w (h w List.mem_cons_self)
      exact all vs vs σ fun _ h => h
    · cases b with
      | true =>
        refine iteT ⟨ρ4, S5, _, X0, r4.mono t5, a5, q5, fun d S6 v6 H6 q6 t6 r6 a6 => ?_, lx0⟩
        obtain ⟨acc, e6, l6, w6⟩ := q6
        obtain ⟨xs, h6, rl⟩ := a6 p _ e6
        have tw : Tk K H6 (upd H6 p (.lst (xs ++ [v6]))) := Tk.write h6 wr_lst
        refine ⟨xs, h6, by rw [rl.length]; exact l6, (((t2.trans t3).trans t4).trans t5).trans (t6.trans tw), _, a6.write h6 wr_lst (.mlst upd_same ((rl.mono tw).append (.cons (r6.mono tw) .nil))), w6⟩
      | false => exact iteF ⟨((t2.trans t3).trans t4).trans t5, S5, a5, q5⟩
  · have e : i = items.length := by omega
    subst e
    exact .inl ⟨it.stop H' S' t2 a2 (st _ S' hi w), k _ S' _ H' (done S' w) (t1.trans t2) (.ref p) a2⟩
theorem d_lc (hc : X.calm = true) (hN : X.N.Nodup) (hi : PI X tg iter (lowI X.K W di)) (ok : BlkOk X.N X.env.scope scope own)
    (hg : ∀ (s : Shared) (H : Hp) (C : Addr) (cl : List (Str × Addr)) (fp : List Addr), PG (X.blk s H scope (compEnvC scope cl C X.env) fp) tg g) (ng : NG X.K g dg (own.map (·.2)))
    (ht : ∀ (s : Shared) (H : Hp) (C : Addr) (cl : List (Str × Addr)) (fp : List Addr), PTs (X.blk s H scope (compEnvC scope cl C X.env) fp) ifs (lowT X.K W0 dt))
    (he : ∀ (s : Shared) (H : Hp) (C : Addr) (cl : List (Str × Addr)) (fp : List Addr), PE (X.blk s H scope (compEnvC scope cl C X.env) fp) elt (low X.K W0 de)) (hs : ∀ x, foldedSetIterable iter X.env x = pure x := by intro _; rfl) :
    PE X (.ListComp elt [⟨tg, iter, ifs, 0⟩] scope pos) (low X.K W (dLc di dg dt de (own.map (·.2)))) := pei (pe_lc hc hN hi ok hg ht he hs) (low_lc ng)
theorem s_setLc (i : Nat) {y : Str} {py : Pos} (hc : X.calm = true) (hN : X.N.Nodup) (hsw : swapsWith (.ListComp elt [⟨tg, iter, ifs, 0⟩] scope pos) (some (.Name y py)) spos.line X.env = pure true)
    (hi : PI X tg iter (lowI X.K W di)) (ok : BlkOk X.N X.env.scope scope own)
    (hg : ∀ (s : Shared) (H : Hp) (C : Addr) (cl : List (Str × Addr)) (fp : List Addr), PG (X.blk s H scope (compEnvC scope cl C X.env) fp) tg g) (ng : NG X.K g dg (own.map (·.2)))
    (ht : ∀ (s : Shared) (H : Hp) (C : Addr) (cl : List (Str × Addr)) (fp : List Addr), PTs (X.blk s H scope (compEnvC scope cl C X.env) fp) ifs (lowT X.K W0 dt))
    (he : ∀ (s : Shared) (H : Hp) (C : Addr) (cl : List (Str × Addr)) (fp : List Addr), PE (X.blk s H scope (compEnvC scope cl C X.env) fp) elt (low X.K W0 de))
    (hy : X.N[i]? = some y := by rfl) (hyl : X.env.scope.names.lookup y = some .local := by rfl) (hs : ∀ x, foldedSetIterable iter X.env x = pure x := by intro _; rfl) :
    PS X (.Assign [.Name y py] (.ListComp elt [⟨tg, iter, ifs, 0⟩] scope pos) spos) (lowS X.K W (dAsg (dLc di dg dt de (own.map (·.2))) (gN i))) := psi (ps_setLc hc hN hy hyl hsw hi ok hg ht he hs) fun D σ H ⟨ρ, S, Dh, hσ, hS, h, k⟩ => by
  exact low_lc ng σ H _ ⟨ρ, S, _, _, hσ, hS, h, fun d S1 v H1 q t r a => k.nx _ S1 _ H1 q t ((hσ.mono t).set i r) a, k.lx hσ⟩
end
end VD

namespace VD
open PySem PySem.Spec PyProof.Rows L2

/-! ### operators -/
section
variable {K : PySem.W.Frag} {X : Cx}
/-- the items of a list or a tuple, and a store in which the list may be forgotten -/
def seqOf (d : Dv) (S : Sto) (R : List Dv → Prop) : Prop := match d with
  | .tup xs => R xs
  | .rol xs => R xs
  | .ref a => match S a with
    | some (.lst xs) => R xs
    | _ => False
  | _ => False
def lstOf (d : Dv) (S : Sto) (R : List Dv → Prop) : Prop := match d with
  | .rol xs => R xs
  | .ref a => match S a with
    | some (.lst xs) => R xs
    | _ => False
  | _ => False
theorem lstOf_c {H : Hp} {S : Sto} {d : Dv} {v : V} {R : List Dv → Prop} (r : Rep K H v d) (hS : Abs K H S) (h : lstOf d S R) : ∃ a us xs, v = .ref a ∧ LC K H a us ∧ RepL K H us xs ∧ R xs := by
  unfold lstOf at h
  split at h
  · obtain ⟨a, us, rfl, ha, la⟩ := r.i_rol
    exact ⟨a, us, _, rfl, .inr ha, la, h⟩
  · rename_i a
    split at h
    · rename_i xs ea
      obtain ⟨us, h1, la⟩ := hS _ _ ea
      exact ⟨a, us, xs, r.i_ref, .inl h1, la, h⟩
    · exact h.elim
  · exact h.elim
theorem lstOf_i {H : Hp} {S : Sto} {d : Dv} {v : V} {R : List Dv → Prop} (r : Rep K H v d) (hS : Abs K H S) (h : lstOf d S R) : ∃ a us xs, v = .ref a ∧ SqL K H a us ∧ RepL K H us xs ∧ R xs := by
  obtain ⟨a, us, xs, e, l, rl, z⟩ := lstOf_c r hS h
  exact ⟨a, us, xs, e, l.sq, rl, z⟩
theorem seqOf_i {H : Hp} {S : Sto} {d : Dv} {v : V} {R : List Dv → Prop} (r : Rep K H v d) (hS : Abs K H S) (h : seqOf d S R) : ∃ a us xs, v = .ref a ∧ (SqL K H a us ∨ SqT K H a us) ∧ RepL K H us xs ∧ R xs := by
  unfold seqOf at h
  split at h
  · obtain ⟨a, us, rfl, ha, la⟩ := r.i_tup
    exact ⟨a, us, _, rfl, .inr ha, la, h⟩
  · obtain ⟨a, us, rfl, ha, la⟩ := r.i_rol
    exact ⟨a, us, _, rfl, .inl ha.sq, la, h⟩
  · rename_i a
    split at h
    · rename_i xs ea
      obtain ⟨us, h1, la⟩ := hS _ _ ea
      exact ⟨a, us, xs, r.i_ref, .inl (.inl (.inl h1)), la, h⟩
    · exact h.elim
  · exact h.elim
def rdAdd : RD2 := fun x y S Q => match x, y with
  | .int i, .int j => Q (.int (i + j)) S
  | .tup xs, .tup ys => xs.length + ys.length ≤ sizeLine ∧ Q (.tup (xs ++ ys)) S
  | .str a, .str b => a.length + b.length ≤ sizeLine ∧ Q (.str (a ++ b)) S
  | x, y => lstOf x S fun xs => lstOf y S fun ys => xs.length + ys.length ≤ sizeLine ∧ ∀ p, S p = none → Q (.ref p) (put S p (.lst (xs ++ ys)))
abbrev rAddA (K : PySem.W.Frag) : R2 := fun x y H Q => rI0 (fun i j => .int (i + j)) x y H Q ∨ rCatA K x y H Q ∨ (∃ i j, x = .str i ∧ y = .str j ∧ i.length + j.length ≤ sizeLine ∧ Q (.str (i ++ j)) H) ∨ rCatC K x y H Q
theorem op_addA : OpR X (binaryOp .Add) (rAddA X.K) := op_add.or (op_catA.or (op_add_str.or op_catC))
theorem l_add : LR2 K (rAddA K) rdAdd := by
  intro x y H dx dy S Qh Q rx ry hS h k
  unfold rdAdd at h
  split at h
  · exact .inl ⟨_, _, rx.i_int, ry.i_int, k.now h (.int _) hS⟩
  · obtain ⟨a, xs, rfl, ha, la⟩ := rx.i_tup
    obtain ⟨b, ys, rfl, hb, lb⟩ := ry.i_tup
    obtain ⟨hl, q⟩ := h
    refine .inr (.inl ⟨a, b, xs, ys, rfl, rfl, ha, hb, by rw [la.length, lb.length]; exact hl, fun e => ?_, fun e e' => ?_, fun e e' p hp => ?_⟩)
    · rw [la.nil_iff.mp e] at q
      exact k.now q (.tup hb lb) hS
    · rw [lb.nil_iff.mp e', List.append_nil] at q
      exact k.now q (.tup ha la) hS
    · exact k _ _ _ _ q (Tk.new hp) (.tup (.inl (.inl upd_same)) ((la.mono (Tk.new hp)).append (lb.mono (Tk.new hp)))) (hS.tup hp)
  · exact .inr (.inr (.inl ⟨_, _, rx.i_str, ry.i_str, h.1, k.now h.2 (.str _) hS⟩))
  · obtain ⟨a, us, xs, rfl, l1, r1, h⟩ := lstOf_c rx hS h
    obtain ⟨b, vs, ys, rfl, l2, r2, h⟩ := lstOf_c ry hS h
    exact .inr (.inr (.inr ⟨a, b, us, vs, rfl, rfl, l1, l2, by rw [r1.length, r2.length]; exact h.1, fun p hp => k _ _ _ _ (h.2 p (hS.free hp)) (Tk.new hp) (.ref p) (hS.new hp (.mlst upd_same ((r1.mono (Tk.new hp)).append (r2.mono (Tk.new hp)))))⟩))
def rdSub : RD2 := fun x y S Q => match x, y with
  | .int i, .int j => Q (.int (i - j)) S
  | _, _ => False
theorem l_sub : LR2 K (rI0 fun i j => .int (i - j)) rdSub := by
  intro x y H dx dy S Qh Q rx ry hS h k
  unfold rdSub at h
  split at h
  · exact ⟨_, _, rx.i_int, ry.i_int, k.now h (.int _) hS⟩
  · exact h.elim
/-- a product fits -/
theorem mulok_l {i j : Int} (h1 : -(2 ^ 64) < i) (h2 : i < 2 ^ 64) : IntMulOk i j := .of_left (intBits_le_64 h1 h2)
theorem mulok_r {i j : Int} (h1 : -(2 ^ 64) < j) (h2 : j < 2 ^ 64) : IntMulOk i j := .of_right (intBits_le_64 h1 h2)
theorem op_mulK : OpR X (binaryOp .Mult) (rI IntMulOk fun i j => .int (i * j)) := opI fun _ _ _ _ _ _ _ hc q => mul_int q hc
/-- the same tuple -/
theorem tuple_mulS (l : Addr) (items : Array Value) (n : Nat) (dd : Option Addr) (sl : Array (Option Value)) (x : Int) (u : Tok) (c0 : (decide (x < -(2 ^ 63)) || decide (x ≥ 2 ^ 63)) = false) (c1 : (items.isEmpty || x == 1) = true) :
    Meets (Builtin.«tuple.__mul__» ⟨[.ref l, .int x u], []⟩) (fun _ R s => s.heap.get? l = some { cls := .type "tuple", dict := dd, data := .seq items n, slots := sl } ∧ R (.ok (.ret (Value.ref l))) s) :=
  .of_wp fun prog w A R s h => by
    obtain ⟨hp, g, d, tk, os⟩ := s
    obtain ⟨hl, h⟩ := h
    have f1 := AutoSeq1.idx_int
    wp_walk using wpAny_loadPart' hl
    repeat (first
      | (refine wpAny_ite_false (decide_eq_false (by rw [c0]; exact Bool.false_ne_true)) ?_; wp_walk using wpAny_loadPart' hl)
      | (refine wpAny_ite_true (decide_eq_true c1) ?_; wp_walk using wpAny_loadPart' hl))
    exact ⟨_, rfl, h⟩
def rRepS (K : PySem.W.Frag) : R2 := fun x y H Q => ∃ l k xs, x = .ref l ∧ y = .int k ∧ SqT K H l xs ∧ (xs = [] ∨ k = 1) ∧ 1 ≤ k ∧ k ≤ 1000 ∧ Q (.ref l) H
theorem op_repS : OpR X (binaryOp .Mult) (rRepS X.K) := by
  intro pins s σ H x y v u Q I rx ry h
  obtain ⟨l, k, xs, rfl, rfl, hT, hne, h1, h2, q⟩ := h
  cases rx
  obtain ⟨t, rfl⟩ := ry
  obtain ⟨its, r, ⟨⟨cls, dd, data, sl⟩, ho, hc, n, hd⟩, hs⟩ := I.tuple hT
  simp only at hc hd
  subst hc hd
  have c0 : (decide (k < -(2 ^ 63)) || decide (k ≥ 2 ^ 63)) = false := by
    rw [decide_eq_false (by omega), decide_eq_false (by omega)] <;> rfl
  have c1 : (its.toArray.isEmpty || k == 1) = true := by
    rcases hne with e | e
    · subst e; cases r; rfl
    · subst e; simp
  refine wpAny_binaryOp_repeat_ref (T := "tuple") (U := "int") (by decide) ⟨_, ho, rfl⟩ (fun s' => typeIs_int s' k t) noFill_tuple_mul F.fills_int_mul F.slot_int_rmul repeat_tuple F.slot_int_index.lookup
    (call_meets F.slot_int_rmul (typeIs_int s k t) F.entry_int_rmul (F.args_int_rmul_2 _ _) (int_rmul_tuple k t l its.toArray n dd sl)
      ⟨ho, rfl, ⟨_, ho, rfl⟩, call_meets F.slot_tuple_mul ⟨_, ho, rfl⟩ F.entry_tuple_mul (F.args_tuple_mul_2 _ _) (tuple_mulS l its.toArray n dd sl k t c0 c1) ⟨ho, ?_⟩⟩)
  exact ⟨.ref l, H, I, rfl, q⟩
def rdMul : RD2 := fun x y S Q => match x, y with
  | .int i, .int j => IntMulOk i j ∧ Q (.int (i * j)) S
  | .tup xs, .int k => (1 ≤ k ∧ k ≤ 1000 ∧ xs.length ≤ 1000) ∧ Q (.tup (List.replicate k.toNat xs).flatten) S
  | .ref a, .int k => match S a with
    | some (.lst xs) => (-(2 ^ 63) ≤ k ∧ k < 2 ^ 63 ∧ xs.length * k.toNat ≤ sizeLine) ∧ ∀ p, S p = none → Q (.ref p) (put S p (.lst (List.replicate k.toNat xs).flatten))
    | _ => False
  | _, _ => False
abbrev rMulA (K : PySem.W.Frag) : R2 := fun x y H Q => rI IntMulOk (fun i j => .int (i * j)) x y H Q ∨ rRepS K x y H Q ∨ rRepT K x y H Q ∨ rRep x y H Q
theorem op_mulA : OpR X (binaryOp .Mult) (rMulA X.K) := op_mulK.or (op_repS.or (op_repT.or op_rep))
theorem flat_nil {α : Type} : ∀ k : Nat, (List.replicate k ([] : List α)).flatten = []
  | 0 => rfl
  | k + 1 => by rw [List.replicate_succ, List.flatten_cons, flat_nil k]; rfl
theorem l_mul : LR2 K (rMulA K) rdMul := by
  intro x y H dx dy S Qh Q rx ry hS h k
  unfold rdMul at h
  split at h
  · exact .inl ⟨_, _, rx.i_int, ry.i_int, h.1, k.now h.2 (.int _) hS⟩
  · rename_i xs m
    obtain ⟨a, us, rfl, ha, la⟩ := rx.i_tup
    obtain ⟨⟨h1, h2, h3⟩, q⟩ := h
    by_cases e : us = [] ∨ m = 1
    · refine .inr (.inl ⟨a, m, us, rfl, ry.i_int, ha, e, h1, h2, ?_⟩)
      have e2 : (List.replicate m.toNat xs).flatten = xs := by
        rcases e with e | e
        · rw [la.nil_iff.mp e, flat_nil]
        · subst e; simp
      rw [e2] at q
      exact k.now q (.tup ha la) hS
    · have e1 : us ≠ [] := fun z => e (.inl z)
      have e2 : m ≠ 1 := fun z => e (.inr z)
      refine .inr (.inr (.inl ⟨a, m, us, rfl, ry.i_int, ha, e1, by omega, h2, by rw [la.length]; exact h3, fun p hp => ?_⟩))
      exact k _ _ _ _ q (Tk.new hp) (.tup (.inl (.inl upd_same)) ((la.mono (Tk.new hp)).rep _)) (hS.tup hp)
  · rename_i a m
    split at h
    · rename_i xs ea
      obtain ⟨us, h1, l1⟩ := hS _ _ ea
      obtain ⟨⟨b1, b2, b3⟩, q⟩ := h
      exact .inr (.inr (.inr ⟨a, m, us, rx.i_ref, ry.i_int, h1, b1, b2, by rw [l1.length]; exact b3, fun p hp => k _ _ _ _ (q p (hS.free hp)) (Tk.new hp) (.ref p) (hS.new hp (.mlst upd_same ((l1.mono (Tk.new hp)).rep _)))⟩))
    · exact h.elim
  · exact h.elim
/-- // and % by a positive number -/
def CDivP (i j : Int) : Prop := 0 < j ∧ j.natAbs.log2 < 9000
theorem op_divP : OpR X (binaryOp .FloorDiv) (rI CDivP fun i j => .int (i / j)) := opI fun i j _ _ _ _ _ hc q => by
  have h1 : (0 : Int) < j := hc.1
  exact floordiv_int (by omega) (by rw [Int.fdiv_eq_ediv_of_nonneg i (by omega)]; exact q) (.inl (PyProof.noPylong_of_log2 hc.2))
theorem divp {i j : Int} (b : Nat) (h : 0 < j) (hb : j.natAbs < 2 ^ b) (h0 : 0 < b := by decide) (h9 : b ≤ 9000 := by decide) : CDivP i j := ⟨h, Nat.lt_of_lt_of_le (PySem.Flt.log2_lt_of h0 hb) h9⟩
def rdDiv : RD2 := fun x y S Q => match x, y with
  | .int i, .int j => CDivP i j ∧ Q (.int (i / j)) S
  | _, _ => False
theorem l_div : LR2 K (rI CDivP fun i j => .int (i / j)) rdDiv := by
  intro x y H dx dy S Qh Q rx ry hS h k
  unfold rdDiv at h
  split at h
  · exact ⟨_, _, rx.i_int, ry.i_int, h.1, k.now h.2 (.int _) hS⟩
  · exact h.elim
def rdMod : RD2 := fun x y S Q => match x, y with
  | .int i, .int j => 0 < j ∧ Q (.int (i % j)) S
  | _, _ => False
theorem l_mod : LR2 K (rI (fun _ j => 0 < j) fun i j => .int (i % j)) rdMod := by
  intro x y H dx dy S Qh Q rx ry hS h k
  unfold rdMod at h
  split at h
  · exact ⟨_, _, rx.i_int, ry.i_int, h.1, k.now h.2 (.int _) hS⟩
  · exact h.elim
def rdPow : RD2 := fun x y S Q => match x, y with
  | .int i, .int j => CPow i j ∧ Q (.int (i ^ j.toNat)) S
  | _, _ => False
theorem l_pow : LR2 K (rI CPow fun i j => .int (i ^ j.toNat)) rdPow := by
  intro x y H dx dy S Qh Q rx ry hS h k
  unfold rdPow at h
  split at h
  · exact ⟨_, _, rx.i_int, ry.i_int, h.1, k.now h.2 (.int _) hS⟩
  · exact h.elim
/-- + in place, of ints -/
def rdIAdd : RD2 := fun x y S Q => match x, y with
  | .int i, .int j => Q (.int (i + j)) S
  | _, _ => False
theorem l_iadd : LR2 K (rI0 fun i j => .int (i + j)) rdIAdd := by
  intro x y H dx dy S Qh Q rx ry hS h k
  unfold rdIAdd at h
  split at h
  · exact ⟨_, _, rx.i_int, ry.i_int, k.now h (.int _) hS⟩
  · exact h.elim
/-! one-place -/
variable {W : WX} {a b e : Expr} {da : DE} {pos : Pos}
def dNeg (da : DE) : DE := fun ρ S Q X => da ρ S (fun x S1 => match x with | .int i => Q (.int (-i)) S1 | _ => False) X
theorem d_neg (ha : PE X a (low X.K W da)) : PE X (.UnaryOp .USub a pos) (low X.K W (dNeg da)) := pei (pe_un un_neg ha) fun σ H Q ⟨ρ, S, Qh, Xh, hσ, hS, h, k, x⟩ =>
  ⟨ρ, S, _, Xh, hσ, hS, h, fun d1 S1 v1 H1 q1 t1 r1 a1 => by
    cases d1 with
    | int i => exact ⟨i, r1.i_int, (k.mono t1).now q1 (.int _) a1⟩
    | _ => exact q1.elim, x⟩

/-! ### comparisons -/
mutual
def py : Dv → PyData
  | .non => .none
  | .bl b => .bool b
  | .int i => .int i
  | .str x => .str x
  | .tup xs => .tuple (pyL xs)
  | .rol xs => .list (pyL xs)
  | .ty _ => .none
  | .ref _ => .none
  | .rod _ _ => .none
  | .obj _ _ _ => .none
def pyL : List Dv → List PyData
  | [] => []
  | x :: xs => py x :: pyL xs
/-- data all through -/
def isD : Dv → Bool
  | .non | .bl _ | .int _ | .str _ => true
  | .tup xs | .rol xs => isDL xs
  | .ty _ | .ref _ | .rod _ _ | .obj _ _ _ => false
def isDL : List Dv → Bool
  | [] => true
  | x :: xs => isD x && isDL xs
end
mutual
theorem Rep.dp {H : Hp} : ∀ (d : Dv) {v : V}, Rep K H v d → isD d = true → Dp K H v (py d)
  | .non, _, h, _ => by rw [h.i_non]; exact .non
  | .bl b, _, h, _ => by rw [h.i_bl]; exact .bl b
  | .int b, _, h, _ => by rw [h.i_int]; exact .int b
  | .str b, _, h, _ => by rw [h.i_str]; exact .str b
  | .tup xs, _, h, e => by
    obtain ⟨p, us, rfl, hs, l⟩ := h.i_tup
    exact .tup hs (RepL.dp xs l (by simpa [isD] using e))
  | .rol xs, _, h, e => by
    obtain ⟨p, us, rfl, hs, l⟩ := h.i_rol
    exact .lst hs.sq (RepL.dp xs l (by simpa [isD] using e))
  | .ty _, _, _, e => by cases e
  | .ref _, _, _, e => by cases e
  | .rod _ _, _, _, e => by cases e
  | .obj _ _ _, _, _, e => by cases e
theorem RepL.dp {H : Hp} : ∀ (ds : List Dv) {vs : List V}, RepL K H vs ds → isDL ds = true → DpAll K H vs (pyL ds)
  | [], _, h, _ => by rw [h.nil_i]; exact .nil
  | d :: ds, _, h, e => by
    obtain ⟨v, r, rfl, h1, h2⟩ := h.cons_i
    simp only [isDL, Bool.and_eq_true] at e
    exact .cons (Rep.dp d h1 e.1) (RepL.dp ds h2 e.2)
end
def shp (d : Dv) : Bool := isD d && SeqAt.shaped (py d)
def shpL (ds : List Dv) : Bool := isDL ds && SeqAt.shaped (.list (pyL ds))
def eqvD (x y : Dv) : Bool := PyData.eqv (py x) (py y)
def eqvL (x y : List Dv) : Bool := PyData.eqvAll (pyL x) (pyL y)
/-- a list at its address as data -/
def valOf (d : Dv) (S : Sto) : Dv := match d with
  | .ref a => match S a with
    | some (.lst xs) => .rol xs
    | _ => d
  | _ => d
def rdEqG (f : Bool → Bool) : RD2 := fun x y S Q => match x, y with
  | .int i, .int j => Q (.bl (f (decide (i = j)))) S
  | .bl i, .bl j => Q (.bl (f (decide (i = j)))) S
  | .str i, .str j => Q (.bl (f (decide (i = j)))) S
  | x, y => (shp (valOf x S) = true ∧ shp (valOf y S) = true) ∧ Q (.bl (f (eqvD (valOf x S) (valOf y S)))) S
abbrev rdEq := rdEqG fun b => b
abbrev rdNe := rdEqG fun b => !b
theorem dec_congr {p q : Prop} [Decidable p] [Decidable q] (h : p ↔ q) : decide p = decide q := by
  by_cases hp : p
  · rw [decide_eq_true hp, decide_eq_true (h.mp hp)]
  · rw [decide_eq_false hp, decide_eq_false fun z => hp (h.mpr z)]
/-- == (f the identity), != (f not) -/
def rEqG (K : PySem.W.Frag) (f : Bool → Bool) : R2 := fun x y H Q => (scal x y = true ∧ Q (.bl (f (decide (x = y)))) H) ∨ ∃ d e, Dp K H x d ∧ Dp K H y e ∧ SeqAt.shaped d = true ∧ SeqAt.shaped e = true ∧ Q (.bl (f (PyData.eqv d e))) H
theorem op_eqA (hu : X.A.units + 64 < cLine) : OpR X (compareOp .Eq) (rEqG X.K fun b => b) := op_eq.or (op_eqD hu)
theorem op_neA (hu : X.A.units + 64 < cLine) : OpR X (compareOp .NotEq) (rEqG X.K fun b => !b) := op_ne.or (op_neD hu)
theorem shp_i {d : Dv} (h : shp d = true) : isD d = true ∧ SeqAt.shaped (py d) = true := by
  unfold shp at h
  rwa [Bool.and_eq_true] at h
theorem l_eq {f : Bool → Bool} : LR2 K (rEqG K f) (rdEqG f) := by
  intro x y H dx dy S Qh Q rx ry hS h k
  unfold rdEqG at h
  split at h
  · rw [rx.i_int, ry.i_int]
    refine .inl ⟨rfl, ?_⟩
    rw [dec_congr (q := _ = _) ⟨V.int.inj, congrArg V.int⟩]
    exact k.now h (.bl _) hS
  · rw [rx.i_bl, ry.i_bl]
    refine .inl ⟨rfl, ?_⟩
    rw [dec_congr (q := _ = _) ⟨V.bl.inj, congrArg V.bl⟩]
    exact k.now h (.bl _) hS
  · rw [rx.i_str, ry.i_str]
    refine .inl ⟨rfl, ?_⟩
    rw [dec_congr (q := _ = _) ⟨V.str.inj, congrArg V.str⟩]
    exact k.now h (.bl _) hS
  · obtain ⟨⟨s1, s2⟩, q⟩ := h
    have z : ∀ {v : V} {d : Dv}, Rep K H v d → shp (valOf d S) = true → Dp K H v (py (valOf d S)) := by
      intro v d r s
      by_cases hv : ∃ a xs, d = .ref a ∧ S a = some (.lst xs)
      · obtain ⟨a, xs, rfl, e⟩ := hv
        have e2 : valOf (.ref a) S = .rol xs := by unfold valOf; dsimp only; rw [e]
        rw [e2] at s ⊢
        obtain ⟨us, h1, l1⟩ := hS _ _ e
        rw [r.i_ref]
        have i1 := (shp_i s).1
        exact .lst (.inl (.inl h1)) (RepL.dp _ l1 (by simpa [isD] using i1))
      · have e2 : valOf d S = d := by
          unfold valOf
          split
          · rename_i a
            split
            · rename_i xs e; exact absurd ⟨a, xs, rfl, e⟩ hv
            · rfl
          · rfl
        rw [e2] at s ⊢
        exact Rep.dp _ r (shp_i s).1
    exact .inr ⟨_, _, z rx s1, z ry s2, (shp_i s1).2, (shp_i s2).2, k.now q (.bl _) hS⟩
def rdCmp (p : Int → Int → Bool) : RD2 := fun x y S Q => match x, y with
  | .int i, .int j => Q (.bl (p i j)) S
  | _, _ => False
abbrev rdLt := rdCmp fun i j => decide (i < j)
abbrev rdLe := rdCmp fun i j => decide (i ≤ j)
abbrev rdGt := rdCmp fun i j => decide (j < i)
abbrev rdGe := rdCmp fun i j => decide (j ≤ i)
theorem l_cmp {p : Int → Int → Bool} : LR2 K (rI0 fun i j => .bl (p i j)) (rdCmp p) := by
  intro x y H dx dy S Qh Q rx ry hS h k
  unfold rdCmp at h
  split at h
  · exact ⟨_, _, rx.i_int, ry.i_int, k.now h (.bl _) hS⟩
  · exact h.elim
/-- is None, is not None -/
def isNon : Dv → Bool
  | .non => true
  | _ => false
def rdIsN (f : Bool → Bool) : RD2 := fun x y S Q => match y with
  | .non => Q (.bl (f (isNon x))) S
  | _ => False
theorem isNon_v {H : Hp} {x : V} {d : Dv} (r : Rep K H x d) : decide (x = .non) = isNon d := by
  cases r <;> rfl
theorem l_isN : LR2 K (fun x y H Q => y = .non ∧ Q (.bl (decide (x = .non))) H) (rdIsN fun b => b) := by
  intro x y H dx dy S Qh Q rx ry hS h k
  unfold rdIsN at h
  split at h
  · exact ⟨ry.i_non, by rw [isNon_v rx]; exact k.now h (.bl _) hS⟩
  · exact h.elim
theorem l_notN : LR2 K (fun x y H Q => y = .non ∧ Q (.bl (!decide (x = .non))) H) (rdIsN fun b => !b) := by
  intro x y H dx dy S Qh Q rx ry hS h k
  unfold rdIsN at h
  split at h
  · exact ⟨ry.i_non, by rw [isNon_v rx]; exact k.now h (.bl _) hS⟩
  · exact h.elim
end
/-! ### displays, subscripts, slices -/
section
variable {K : PySem.W.Frag} {X : Cx} {W : WX} {a b e : Expr} {es : List Expr} {da db : DE} {das : DA} {pos : Pos}
def dTup (das : DA) : DE := fun ρ S Q X => das ρ S (fun ds S1 => ds.length ≤ sizeLine ∧ Q (.tup ds) S1) X
theorem d_tup {x1} (h : PA X es (lowA X.K W das)) : PE X (.Tuple es x1 pos) (low X.K W (dTup das)) := pei (pe_tup h) fun σ H Q ⟨ρ, S, Qh, Xh, hσ, hS, h, k, x⟩ =>
  ⟨ρ, S, _, Xh, hσ, hS, h, fun ds S1 vs H1 q1 t1 r1 a1 => ⟨by rw [r1.length]; exact q1.1, fun p hp => k _ _ _ _ q1.2 (t1.trans (Tk.new hp)) (.tup (.inl (.inl upd_same)) (r1.mono (Tk.new hp))) (a1.tup hp)⟩, x⟩
def dLst (das : DA) : DE := fun ρ S Q X => das ρ S (fun ds S1 => ds.length ≤ sizeLine ∧ ∀ p, S1 p = none → Q (.ref p) (put S1 p (.lst ds))) X
theorem d_lst (h : PA X es (lowA X.K W das)) : PE X (.List es pos) (low X.K W (dLst das)) := pei (pe_lst h) fun σ H Q ⟨ρ, S, Qh, Xh, hσ, hS, h, k, x⟩ =>
  ⟨ρ, S, _, Xh, hσ, hS, h, fun ds S1 vs H1 q1 t1 r1 a1 => ⟨by rw [r1.length]; exact q1.1, fun p hp => k _ _ _ _ (q1.2 p (a1.free hp)) (t1.trans (Tk.new hp)) (.ref p) (a1.new hp (.mlst upd_same (r1.mono (Tk.new hp))))⟩, x⟩
theorem atI_len {α β : Type} {xs : List α} {ys : List β} {i : Int} {y : β} (hl : xs.length = ys.length) (h : atI ys i = some y) (P : β → α → Prop) (hp : ∀ (j : Nat) y, ys[j]? = some y → ∃ x, xs[j]? = some x ∧ P y x) : ∃ x, atI xs i = some x ∧ P y x := by
  unfold atI at h ⊢
  rw [hl]
  cases e : ixN ys.length i with
  | none => rw [e] at h; cases h
  | some j =>
    rw [e] at h
    exact hp j y h
def rdIx : RD2 := fun x y S Q => match x, y with
  | .tup xs, .int i => ∃ d, atI xs i = some d ∧ Q d S
  | .rol xs, .int i => ∃ d, atI xs i = some d ∧ Q d S
  | .ref a, .int i => match S a with
    | some (.lst xs) => ∃ d, atI xs i = some d ∧ Q d S
    | _ => False
  | .str z, .int i => z.length ≤ sizeLine ∧ ∃ c, atI z.cps.toList i = some c ∧ Q (.str ⟨#[c]⟩) S
  | _, _ => False
theorem l_ix : LR2 K (rIx K) rdIx := by
  intro x y H dx dy S Qh Q rx ry hS h k
  unfold rdIx at h
  split at h
  · obtain ⟨a, us, rfl, ha, la⟩ := rx.i_tup
    obtain ⟨d, hd, q⟩ := h
    obtain ⟨v, hv, rv⟩ := atI_len la.length hd (fun d v => Rep K H v d) fun j y hy => la.get hy
    exact .inr (.inl ⟨a, us, _, v, rfl, ry.i_int, ha, hv, k.now q rv hS⟩)
  · obtain ⟨a, us, rfl, ha, la⟩ := rx.i_rol
    obtain ⟨d, hd, q⟩ := h
    obtain ⟨v, hv, rv⟩ := atI_len la.length hd (fun d v => Rep K H v d) fun j y hy => la.get hy
    exact .inl ⟨a, us, _, v, rfl, ry.i_int, ha.sq, hv, k.now q rv hS⟩
  · rename_i a i
    split at h
    · rename_i xs ea
      obtain ⟨us, h1, la⟩ := hS _ _ ea
      obtain ⟨d, hd, q⟩ := h
      obtain ⟨v, hv, rv⟩ := atI_len la.length hd (fun d v => Rep K H v d) fun j y hy => la.get hy
      exact .inl ⟨a, us, _, v, rx.i_ref, ry.i_int, .inl (.inl h1), hv, k.now q rv hS⟩
    · exact h.elim
  · obtain ⟨hz, c, hc, q⟩ := h
    exact .inr (.inr ⟨_, _, c, rx.i_str, ry.i_int, hz, hc, k.now q (.str _) hS⟩)
  · exact h.elim
theorem d_ix (ha : PE X a (low X.K W da)) (hb : PE X b (low X.K W db)) (hs : PlainIx b := by intro _ _; rfl) : PE X (.Subscript a b pos) (low X.K W (dOp rdIx da db)) := pei (pe_ix ix_seq ha hb hs) (low_op l_ix)
/-- xs[i] = v -/
def rdSet : RDS := fun o i d S Q => match o, i with
  | .ref a, .int k => match S a with
    | some (.lst xs) => ∃ j, ixN xs.length k = some j ∧ Q (put S a (.lst (xs.set j d)))
    | _ => False
  | _, _ => False
theorem l_set : LRS K rSetL rdSet := by
  intro o i v H dO dI d S Qh Q rO rI r hS h k
  unfold rdSet at h
  split at h
  · rename_i a m
    split at h
    · rename_i xs ea
      obtain ⟨us, h1, la⟩ := hS _ _ ea
      obtain ⟨j, hj, q⟩ := h
      have tw : Tk K H (upd H a (.lst (us.set j v))) := Tk.write h1 wr_lst
      exact ⟨a, us, m, j, rO.i_ref, rI.i_int, h1, by rw [la.length]; exact hj, k _ _ q tw (hS.write h1 wr_lst (.mlst upd_same ((la.mono tw).set j (r.mono tw))))⟩
    · exact h.elim
  · exact h.elim
/-! slices -/
variable {dl dh : DO}
def oNone : DO := fun _ S Q _ => Q none S
def oSome (de : DE) : DO := fun ρ S Q X => de ρ S (fun d S1 => match d with | .int i => Q (some i) S1 | _ => False) X
theorem o_none : PO X none (lowO X.K W oNone) := poi po_none fun σ H Q ⟨ρ, S, Qh, Xh, hσ, hS, h, k, x⟩ => k _ S H h (Tk.refl H) hS
theorem o_some {de : DE} (h : PE X e (low X.K W de)) : PO X (some e) (lowO X.K W (oSome de)) := poi (po_some h) fun σ H Q ⟨ρ, S, Qh, Xh, hσ, hS, h, k, x⟩ =>
  ⟨ρ, S, _, Xh, hσ, hS, h, fun d S1 v H1 q t r a => by
    cases d with
    | int i => exact ⟨i, r.i_int, k _ S1 H1 q t a⟩
    | _ => exact q.elim, x⟩
def cutD {α : Type} (xs : List α) (lo hi : Option Int) : List α := (xs.drop (HT.sIx xs.length 0 lo)).take (HT.sIx xs.length xs.length hi - HT.sIx xs.length 0 lo)
theorem cut_rep {H : Hp} {vs : List V} {ds : List Dv} (l : RepL K H vs ds) (lo hi : Option Int) : RepL K H (cutV vs lo hi) (cutD ds lo hi) := by
  unfold cutV cutD
  rw [l.length]
  exact (l.drop _).take _
theorem cut_whole {α : Type} {xs : List α} {lo hi : Option Int} (h : HT.sIx xs.length 0 lo = 0 ∧ HT.sIx xs.length xs.length hi = xs.length) : cutD xs lo hi = xs := by
  unfold cutD
  rw [h.1, h.2, List.drop_zero, Nat.sub_zero, List.take_length]
def rdSl (x : Dv) (lo hi : Option Int) (S : Sto) (Q : QD) : Prop := match x with
  | .tup xs => Q (.tup (cutD xs lo hi)) S
  | .rol xs => ∀ p, S p = none → Q (.ref p) (put S p (.lst (cutD xs lo hi)))
  | .ref a => match S a with
    | some (.lst xs) => ∀ p, S p = none → Q (.ref p) (put S p (.lst (cutD xs lo hi)))
    | _ => False
  | .str z => z.length ≤ sizeLine ∧ Q (.str (cutS z lo hi)) S
  | _ => False
def dSl (de : DE) (dl dh : DO) : DE := fun ρ S Q X => de ρ S (fun d S1 => dl ρ S1 (fun lo S2 => dh ρ S2 (fun hi S3 => rdSl d lo hi S3 Q) X) X) X
def rSlAll (K : PySem.W.Frag) : V → Option Int → Option Int → Hp → VK → Prop := fun x lo hi H Q => rSlA K x lo hi H Q ∨ rSlL K x lo hi H Q ∨ rSlS x lo hi H Q
theorem sl_all : SlR X (rSlAll X.K) := sl_tupA.or (sl_list.or sl_str)
theorem l_sl {x : V} {d : Dv} {lo hi : Option Int} {H : Hp} {S : Sto} {Qh : QD} {Q : VK} (rx : Rep K H x d) (hS : Abs K H S) (h : rdSl d lo hi S Qh) (k : Lk K H Qh Q) : rSlAll K x lo hi H Q := by
  unfold rdSl at h
  split at h
  · rename_i xs
    obtain ⟨a, us, rfl, ha, la⟩ := rx.i_tup
    refine .inl ⟨a, us, rfl, ha, fun e => ?_, fun _ p hp => k _ _ _ _ h (Tk.new hp) (.tup (.inl (.inl upd_same)) ((cut_rep la lo hi).mono (Tk.new hp))) (hS.tup hp)⟩
    rw [la.length] at e
    rw [cut_whole e] at h
    exact k.now h (.tup ha la) hS
  · obtain ⟨a, us, rfl, ha, la⟩ := rx.i_rol
    exact .inr (.inl ⟨a, us, rfl, ha.sq, fun p hp => k _ _ _ _ (h p (hS.free hp)) (Tk.new hp) (.ref p) (hS.new hp (.mlst upd_same ((cut_rep la lo hi).mono (Tk.new hp))))⟩)
  · rename_i a
    split at h
    · rename_i xs ea
      obtain ⟨us, h1, la⟩ := hS _ _ ea
      exact .inr (.inl ⟨a, us, rx.i_ref, .inl (.inl h1), fun p hp => k _ _ _ _ (h p (hS.free hp)) (Tk.new hp) (.ref p) (hS.new hp (.mlst upd_same ((cut_rep la lo hi).mono (Tk.new hp))))⟩)
    · exact h.elim
  · exact .inr (.inr ⟨_, rx.i_str, h.1, k.now h.2 (.str _) hS⟩)
  · exact h.elim
theorem d_sl {lo hi : Option Expr} {p2 : Pos} (he : PE X e (low X.K W da)) (hl : PO X lo (lowO X.K W dl)) (hu : PO X hi (lowO X.K W dh)) : PE X (.Subscript e (.Slice lo hi none p2) pos) (low X.K W (dSl da dl dh)) := pei (pe_slice sl_all he hl hu) fun σ H Q ⟨ρ, S, Qh, Xh, hσ, hS, h, k, x⟩ =>
  ⟨ρ, S, _, Xh, hσ, hS, h, fun d1 S1 v1 H1 q1 t1 r1 a1 => ⟨ρ, S1, _, Xh, hσ.mono t1, a1, q1, fun lo S2 H2 q2 t2 a2 => ⟨ρ, S2, _, Xh, hσ.mono (t1.trans t2), a2, q2, fun hi S3 H3 q3 t3 a3 =>
    l_sl (r1.mono (t2.trans t3)) a3 q3 (k.mono ((t1.trans t2).trans t3)), x.mono (t1.trans t2)⟩, x.mono t1⟩, x⟩

/-! ### builtins -/
def rdLen : RDC := fun ds S Q => match ds with
  | [.tup xs] => Q (.int xs.length) S
  | [.rol xs] => Q (.int xs.length) S
  | [.ref a] => match S a with
    | some (.lst xs) => Q (.int xs.length) S
    | _ => False
  | [.str z] => z.length ≤ sizeLine ∧ Q (.int z.length) S
  | _ => False
theorem one_i {H : Hp} {vs : List V} {d : Dv} (r : RepL K H vs [d]) : ∃ v, vs = [v] ∧ Rep K H v d := by
  obtain ⟨v, t, rfl, h1, h2⟩ := r.cons_i
  exact ⟨v, by rw [h2.nil_i], h1⟩
theorem two_i {H : Hp} {vs : List V} {d e : Dv} (r : RepL K H vs [d, e]) : ∃ v u, vs = [v, u] ∧ Rep K H v d ∧ Rep K H u e := by
  obtain ⟨v, t, rfl, h1, h2⟩ := r.cons_i
  obtain ⟨u, rfl, h3⟩ := one_i h2
  exact ⟨v, u, rfl, h1, h3⟩
theorem l_len : LRC K (fun xs H Q => ∃ x n, xs = [x] ∧ LenV K x H n ∧ Q (.int n) H) rdLen := by
  intro vs H ds S Qh Q r hS h k
  unfold rdLen at h
  split at h
  · obtain ⟨v, rfl, rr⟩ := one_i r
    obtain ⟨a, us, rfl, ha, la⟩ := rr.i_tup
    exact ⟨_, _, rfl, .inr ⟨us, ha, la.length.symm⟩, k.now h (.int _) hS⟩
  · obtain ⟨v, rfl, rr⟩ := one_i r
    obtain ⟨a, us, rfl, ha, la⟩ := rr.i_rol
    exact ⟨_, _, rfl, .inl ⟨us, ha.sq, la.length.symm⟩, k.now h (.int _) hS⟩
  · rename_i a
    obtain ⟨v, rfl, rr⟩ := one_i r
    split at h
    · rename_i xs ea
      obtain ⟨us, h1, la⟩ := hS _ _ ea
      rw [rr.i_ref]
      exact ⟨_, _, rfl, .inl ⟨us, .inl (.inl h1), la.length.symm⟩, k.now h (.int _) hS⟩
    · exact h.elim
  · obtain ⟨v, rfl, rr⟩ := one_i r
    rw [rr.i_str]
    exact ⟨_, _, rfl, ⟨h.1, rfl⟩, k.now h.2 (.int _) hS⟩
  · exact h.elim
/-- a function on ints -/
def rdInt1 (f : Int → Dv) : RDC := fun ds S Q => match ds with
  | [.int i] => Q (f i) S
  | _ => False
theorem l_abs : LRC K (fun xs H Q => ∃ i, xs = [.int i] ∧ Q (.int (if i < 0 then -i else i)) H) (rdInt1 fun i => .int (if i < 0 then -i else i)) := by
  intro vs H ds S Qh Q r hS h k
  unfold rdInt1 at h
  split at h
  · obtain ⟨v, rfl, rr⟩ := one_i r
    rw [rr.i_int]
    exact ⟨_, rfl, k.now h (.int _) hS⟩
  · exact h.elim
def rdInt : RDC := fun ds S Q => match ds with
  | [.int i] => Q (.int i) S
  | [.bl b] => Q (.int (if b then 1 else 0)) S
  | _ => False
theorem l_int : LRC K (fun xs H Q => (∃ i, xs = [.int i] ∧ Q (.int i) H) ∨ ∃ k, xs = [.bl k] ∧ Q (.int (if k then 1 else 0)) H) rdInt := by
  intro vs H ds S Qh Q r hS h k
  unfold rdInt at h
  split at h
  · obtain ⟨v, rfl, rr⟩ := one_i r
    rw [rr.i_int]
    exact .inl ⟨_, rfl, k.now h (.int _) hS⟩
  · obtain ⟨v, rfl, rr⟩ := one_i r
    rw [rr.i_bl]
    exact .inr ⟨_, rfl, k.now h (.int _) hS⟩
  · exact h.elim
def rdInt2 (f : Int → Int → Dv) : RDC := fun ds S Q => match ds with
  | [.int i, .int j] => Q (f i j) S
  | _ => False
theorem l_max2 : LRC K (fun xs H Q => ∃ i j, xs = [.int i, .int j] ∧ Q (.int (if j > i then j else i)) H) (rdInt2 fun i j => .int (if j > i then j else i)) := by
  intro vs H ds S Qh Q r hS h k
  unfold rdInt2 at h
  split at h
  · obtain ⟨v, u, rfl, r1, r2⟩ := two_i r
    rw [r1.i_int, r2.i_int]
    exact ⟨_, _, rfl, k.now h (.int _) hS⟩
  · exact h.elim
theorem l_min2 : LRC K (fun xs H Q => ∃ i j, xs = [.int i, .int j] ∧ Q (.int (if j < i then j else i)) H) (rdInt2 fun i j => .int (if j < i then j else i)) := by
  intro vs H ds S Qh Q r hS h k
  unfold rdInt2 at h
  split at h
  · obtain ⟨v, u, rfl, r1, r2⟩ := two_i r
    rw [r1.i_int, r2.i_int]
    exact ⟨_, _, rfl, k.now h (.int _) hS⟩
  · exact h.elim
def rdAll : RDC := fun ds S Q => match ds with
  | [d] => lstOf d S fun xs => ∃ bs : List Bool, xs = bs.map Dv.bl ∧ ∃ S', Sub S' S ∧ Q (.bl (bs.all id)) S'
  | _ => False
theorem l_all : LRC K (rAll K) rdAll := by
  intro vs H ds S Qh Q r hS h k
  unfold rdAll at h
  split at h
  · obtain ⟨v, rfl, rr⟩ := one_i r
    obtain ⟨a, us, xs, rfl, hl, rl, bs, rfl, S', sb, q⟩ := lstOf_i rr hS h
    exact ⟨a, bs, rfl, by rw [← rl.bls]; exact hl, k.now q (.bl _) (hS.sub sb)⟩
  · exact h.elim
def rdAny : RDC := fun ds S Q => match ds with
  | [d] => lstOf d S fun xs => ∃ bs : List Bool, xs = bs.map Dv.bl ∧ ∃ S', Sub S' S ∧ Q (.bl (bs.any id)) S'
  | _ => False
theorem l_any : LRC K (rAny K) rdAny := by
  intro vs H ds S Qh Q r hS h k
  unfold rdAny at h
  split at h
  · obtain ⟨v, rfl, rr⟩ := one_i r
    obtain ⟨a, us, xs, rfl, hl, rl, bs, rfl, S', sb, q⟩ := lstOf_i rr hS h
    exact ⟨a, bs, rfl, by rw [← rl.bls]; exact hl, k.now q (.bl _) (hS.sub sb)⟩
  · exact h.elim
def rdSum : RDC := fun ds S Q => match ds with
  | [d] => lstOf d S fun xs => ∃ bs : List Int, xs = bs.map Dv.int ∧ ∃ S', Sub S' S ∧ Q (.int bs.sum) S'
  | _ => False
theorem l_sum : LRC K (rSum K) rdSum := by
  intro vs H ds S Qh Q r hS h k
  unfold rdSum at h
  split at h
  · obtain ⟨v, rfl, rr⟩ := one_i r
    obtain ⟨a, us, xs, rfl, hl, rl, bs, rfl, S', sb, q⟩ := lstOf_i rr hS h
    exact ⟨a, bs, rfl, by rw [← rl.ints]; exact hl, k.now q (.int _) (hS.sub sb)⟩
  · exact h.elim
def rdSorted : RDC := fun ds S Q => match ds with
  | [d] => lstOf d S fun xs => ∃ ns : List Int, xs = ns.map Dv.int ∧ ns.length < 64 ∧ ∃ S', Sub S' S ∧ ∀ (ns' : List Int) p, ns'.Perm ns → ns'.Pairwise (· ≤ ·) → S' p = none → Q (.ref p) (put S' p (.lst (ns'.map Dv.int)))
  | _ => False
theorem l_sorted : LRC K (rSorted K) rdSorted := by
  intro vs H ds S Qh Q r hS h k
  unfold rdSorted at h
  split at h
  · obtain ⟨v, rfl, rr⟩ := one_i r
    obtain ⟨a, us, xs, rfl, hl, rl, bs, rfl, hlen, S', sb, q⟩ := lstOf_i rr hS h
    exact ⟨a, bs, rfl, by rw [← rl.ints]; exact hl, hlen, fun ns' p h1 h2 hp => k _ _ _ _ (q ns' p h1 h2 ((hS.sub sb).free hp)) (Tk.new hp) (.ref p) ((hS.sub sb).new hp (.mlst upd_same (RepL.of_ints ns')))⟩
  · exact h.elim
def rdTuple : RDC := fun ds S Q => match ds with
  | [d] => seqOf d S fun xs => ∃ S', Sub S' S ∧ Q (.tup xs) S'
  | _ => False
theorem l_tuple : LRC K (fun xs H Q => ∃ p ys, xs = [.ref p] ∧ ((SqL K H p ys ∧ ∀ l, H l = none → Q (.ref l) (upd H l (.tup ys))) ∨ (SqT K H p ys ∧ Q (.ref p) H))) rdTuple := by
  intro vs H ds S Qh Q r hS h k
  unfold rdTuple at h
  split at h
  · obtain ⟨v, rfl, rr⟩ := one_i r
    obtain ⟨a, us, xs, rfl, hl, rl, S', sb, q⟩ := seqOf_i rr hS h
    rcases hl with hl | hl
    · exact ⟨a, us, rfl, .inl ⟨hl, fun p hp => k _ _ _ _ q (Tk.new hp) (.tup (.inl (.inl upd_same)) (rl.mono (Tk.new hp))) ((hS.sub sb).tup hp)⟩⟩
    · exact ⟨a, us, rfl, .inr ⟨hl, k.now q (.tup hl rl) (hS.sub sb)⟩⟩
  · exact h.elim
def rdList : RDC := fun ds S Q => match ds with
  | [d] => seqOf d S fun xs => ∀ p, S p = none → Q (.ref p) (put S p (.lst xs))
  | _ => False
theorem l_list : LRC K (fun xs H Q => ∃ p ys, xs = [.ref p] ∧ (SqL K H p ys ∨ SqT K H p ys) ∧ ∀ l, H l = none → Q (.ref l) (upd H l (.lst ys))) rdList := by
  intro vs H ds S Qh Q r hS h k
  unfold rdList at h
  split at h
  · obtain ⟨v, rfl, rr⟩ := one_i r
    obtain ⟨a, us, xs, rfl, hl, rl, q⟩ := seqOf_i rr hS h
    exact ⟨a, us, rfl, hl, fun p hp => k _ _ _ _ (q p (hS.free hp)) (Tk.new hp) (.ref p) (hS.new hp (.mlst upd_same (rl.mono (Tk.new hp))))⟩
  · exact h.elim
/-! isinstance -/
/-- the type of a thing -/
def tyD (S : Sto) : Dv → Option Value
  | .non => some (.type "NoneType")
  | .bl _ => some (.type "bool")
  | .int _ => some (.type "int")
  | .str _ => some (.type "str")
  | .tup _ => some (.type "tuple")
  | .rol _ => some (.type "list")
  | .rod _ _ => some (.type "dict")
  | .obj C _ _ => some (.ref C)
  | .ref a => match S a with
    | some (.lst _) => some (.type "list")
    | some (.dK _) => some (.type "dict")
    | some (.ins C _ _) => some (.ref C)
    | _ => none
  | .ty _ => none
def tyNames : List String := ["int", "bool", "str", "tuple", "list", "dict"]
def tyAll : List String := ["NoneType", "bool", "int", "str", "tuple", "list", "dict"]
def isiB (t n : String) : Bool := t == n || (t == "bool" && n == "int")
theorem kitB_tab : ∀ t ∈ tyAll, ∀ n ∈ tyNames, kitB t n = some (isiB t n) := by decide +kernel
/-- what the text says of an own class whose instances are asked -/
structure OwnT (K : PySem.W.Frag) (C : Addr) : Prop where
  cl : Cls K C
  ha : PySem.W.findIn K (.ref C) "__class__" = some (some (.builtin "object.__class__"))
  hn : PySem.W.specialIn K (.builtin "object.__class__") "__get__" = some (some (.builtin "getset_descriptor.__get__"))
  htk : PySem.W.takesIn K (.builtin "object.__class__") = some true
  hm : PySem.W.mroIn K C (.type "object") = some true
  isC : PySem.W.isClsIn K C = true
  ty : PySem.W.typeIn K (.ref C) = some (.type "type")
  nb : ∀ n ∈ tyNames, PySem.W.mroIn K C (.type n) = some false
/-- own classes, and of pairs of them whether the one is of the other -/
structure OTab where
  cs : List Addr
  sub : List (Addr × Addr × Bool)
structure OTab.Ok (K : PySem.W.Frag) (T : OTab) : Prop where
  own : ∀ C ∈ T.cs, OwnT K C
  sub : ∀ p ∈ T.sub, PySem.W.kitOne K (.ref p.1) (.ref p.2.1) = some p.2.2
theorem otab_nil {K : PySem.W.Frag} : OTab.Ok K ⟨[], []⟩ := ⟨fun _ h => (by cases h), fun _ h => (by cases h)⟩
inductive TyY (K : PySem.W.Frag) (H : Hp) : V → Value → Prop where
  | x {v : V} {t : Value} (h : TyX K H v t) : TyY K H v t
  | ins {a C dx : Addr} {fs : List (Str × V)} (e : InsAt H a C dx fs) (O : OwnT K C) : TyY K H (.ref a) (.ref C)
theorem kit_ofY {pins : List (Addr × Obj)} {σ : L2.St} {H : Hp} {s : Shared} {x : V} {u t : Value} (I : Inv X pins σ H s) (rx : RelV x u) (ty : TyY X.K H x t) : ∃ P : Heap → Prop, PySem.W.KitX X.K u t P ∧ P s.heap ∧ u ≠ .builtin "__main__.__loader__#opaque" := by
  cases ty with
  | x h => exact kit_of I rx h
  | ins e O =>
    cases (show u = Value.ref _ from rx)
    obtain ⟨mA, Om, _⟩ := insAt_get I.hok e
    obtain ⟨od, J, _⟩ := Om.look
    exact ⟨_, PySem.W.kitx_own (O.cl.get _) O.cl.hd O.ha O.hn O.htk O.hm, J, fun z => nomatch z⟩
/-- classes asked for -/
inductive ClsD : V → Dv → Value → Prop where
  | ty (n : String) : ClsD (.ty n) (.ty n) (.type n)
  | own (C : Addr) : ClsD (.ref C) (.ref C) (.ref C)
/-- isinstance(x, c); isinstance(x, (S, T)) by a tuple of any make -/
def rIsiY (K : PySem.W.Frag) : List V → Hp → VK → Prop := fun xs H Q => ∃ (x c : V) (t u : Value) (b : Bool), xs = [x, c] ∧ ClsV c u ∧ TyY K H x t ∧ PySem.W.kitOne K t u = some b ∧ Q (.bl b) H
def rIsiTY (K : PySem.W.Frag) : List V → Hp → VK → Prop := fun xs H Q => ∃ (x : V) (tp : Addr) (cs : List V) (t : Value) (us : List Value) (b : Bool), xs = [x, .ref tp] ∧ SqT K H tp cs ∧ Paired ClsV cs us ∧ TyY K H x t ∧ PySem.W.kitAny K t us = some b ∧ Q (.bl b) H
theorem call_isiY : CallR X (.builtin "isinstance") (rIsiY X.K) := by
  intro pins s σ H xs us Q I r h
  obtain ⟨x, c, t, u, b, rfl, k, ty, e, q⟩ := h
  obtain ⟨u1, u2, rfl, r1, r2⟩ := vals2 r
  obtain rfl := k.eq r2
  obtain ⟨P, Z, p, hx⟩ := kit_ofY I r1 ty
  exact PySem.W.kia_one Z I.kIn p e hx fun tk => ⟨.bl b, H, I.tok tk, rfl, q⟩
theorem call_isiTY : CallR X (.builtin "isinstance") (rIsiTY X.K) := by
  intro pins s σ H xs us Q I r h
  obtain ⟨x, tp, cs, t, ws, b, rfl, hT, k, ty, e, q⟩ := h
  obtain ⟨u1, u2, rfl, r1, r2⟩ := vals2 r
  cases (show u2 = Value.ref tp from r2)
  obtain ⟨P, Z, p, hx⟩ := kit_ofY I r1 ty
  obtain ⟨its, rv, ⟨o, h1, h2, n, h3⟩, hz⟩ := I.tuple hT
  obtain rfl := ClsV.all k rv
  obtain ⟨oc, od, dt, sl⟩ := o
  simp only at h2 h3
  subst h2 h3
  exact PySem.W.kia_tup Z I.kIn p h1 e hx fun tk => ⟨.bl b, H, I.tok tk, rfl, q⟩
theorem call_isiA : CallR X (.builtin "isinstance") (fun xs H Q => rIsiY X.K xs H Q ∨ rIsiTY X.K xs H Q) := call_isiY.or call_isiTY
theorem tyD_in {S : Sto} {d : Dv} {t : Value} (h : tyD S d = some t) : (∃ n ∈ tyAll, t = .type n) ∨ ∃ C, t = .ref C := by
  unfold tyD at h
  split at h <;> first
    | (cases h; done)
    | (cases h; exact .inl ⟨_, by decide, rfl⟩)
    | (cases h; exact .inr ⟨_, rfl⟩)
    | (split at h <;> first | (cases h; done) | (cases h; exact .inl ⟨_, by decide, rfl⟩) | (cases h; exact .inr ⟨_, rfl⟩))
theorem tyD_ok {H : Hp} {S : Sto} {d : Dv} {v : V} {t : Value} (r : Rep K H v d) (hS : Abs K H S) (h : tyD S d = some t) (O : ∀ C, t = .ref C → OwnT K C) : TyY K H v t := by
  unfold tyD at h
  split at h
  · cases h; rw [r.i_non]; exact .x (.base .non)
  · cases h; rw [r.i_bl]; exact .x (.base (.bl _))
  · cases h; rw [r.i_int]; exact .x (.base (.int _))
  · cases h; rw [r.i_str]; exact .x (.base (.str _))
  · cases h
    obtain ⟨a, us, rfl, ha, la⟩ := r.i_tup
    rcases ha with (ha | ⟨o, ha⟩) | ⟨o, its, n, h1, h2, _⟩
    · exact .x (.base (.tup ha))
    · exact .x (.fTuple ha)
    · exact .x (.kTuple h1 h2)
  · cases h
    obtain ⟨a, us, rfl, ha, la⟩ := r.i_rol
    rcases ha with ⟨o, ha⟩ | ⟨its, n, h1, _⟩
    · exact .x (.base (.frz ha))
    · exact .x (.kList h1 rfl)
  · cases h
    obtain ⟨a, o, vs, rfl, ha, _⟩ := r.i_rod
    exact .x (.fDict ha)
  · cases h
    obtain ⟨a, dx, o, vs, rfl, ha, _⟩ := r.i_obj
    exact .ins (.inr ⟨o, ha⟩) (O _ rfl)
  · rename_i a
    split at h
    · rename_i xs ea
      cases h
      obtain ⟨us, h1, la⟩ := hS _ _ ea
      rw [r.i_ref]
      exact .x (.base (.lst h1))
    · rename_i xs ea
      cases h
      obtain ⟨us, h1, la⟩ := hS _ _ ea
      rw [r.i_ref]
      exact .x (.base (.dK h1))
    · rename_i C dx xs ea
      cases h
      obtain ⟨us, h1, la⟩ := hS _ _ ea
      rw [r.i_ref]
      exact .ins (.inl h1) (O _ rfl)
    · cases h
  · cases h
/-- whether a thing of the type t is one of the class c -/
inductive IsiR (T : OTab) : Value → Dv → Bool → Prop where
  | bb (t n : String) (h : tyNames.contains n = true) : IsiR T (.type t) (.ty n) (isiB t n)
  | bo (t : String) (C : Addr) (h : C ∈ T.cs) : IsiR T (.type t) (.ref C) false
  | ob (C : Addr) (n : String) (h : C ∈ T.cs) (hn : tyNames.contains n = true) : IsiR T (.ref C) (.ty n) false
  | oo (C D : Addr) (b : Bool) (h : C ∈ T.cs) (hs : (C, D, b) ∈ T.sub) : IsiR T (.ref C) (.ref D) b
inductive IsiRs (T : OTab) (t : Value) : List Dv → Bool → Prop where
  | nil : IsiRs T t [] false
  | cons {c : Dv} {cs : List Dv} {b r : Bool} : IsiR T t c b → IsiRs T t cs r → IsiRs T t (c :: cs) (b || r)
def rdIsi (T : OTab) : RDC := fun ds S Q => match ds with
  | [d, .tup cs] => ∃ t b, tyD S d = some t ∧ IsiRs T t cs b ∧ (∀ C, t = .ref C → C ∈ T.cs) ∧ Q (.bl b) S
  | [d, c] => ∃ t b, tyD S d = some t ∧ IsiR T t c b ∧ Q (.bl b) S
  | _ => False
theorem noMro : ∀ t ∈ tyAll, ∀ C : Addr, (PySem.fastBuiltinMro t).map (fun l => l.contains (Value.ref C)) = some false := by
  have h : ∀ t ∈ tyAll, ∃ l : List String, PySem.fastBuiltinMro t = some (l.map Value.type) := by
    intro t ht
    simp only [tyAll, List.mem_cons, List.not_mem_nil, or_false] at ht
    rcases ht with rfl | rfl | rfl | rfl | rfl | rfl | rfl
    · exact ⟨["NoneType", "object"], by decide +kernel⟩
    · exact ⟨["bool", "int", "object"], by decide +kernel⟩
    · exact ⟨["int", "object"], by decide +kernel⟩
    · exact ⟨["str", "object"], by decide +kernel⟩
    · exact ⟨["tuple", "object"], by decide +kernel⟩
    · exact ⟨["list", "object"], by decide +kernel⟩
    · exact ⟨["dict", "object"], by decide +kernel⟩
  intro t ht C
  obtain ⟨l, e⟩ := h t ht
  rw [e, Option.map_some]
  congr 1
  clear e
  induction l with
  | nil => rfl
  | cons x l ih =>
    rw [List.map_cons, List.contains_cons, ih]
    rfl
theorem isiR_ok {T : OTab} (hT : T.Ok K) {t : Value} {c : Dv} {b : Bool} (ht : (∃ n ∈ tyAll, t = .type n) ∨ ∃ C, t = .ref C) (h : IsiR T t c b) {H : Hp} {v : V} (rc : Rep K H v c) : ∃ u, ClsV v u ∧ PySem.W.kitOne K t u = some b := by
  cases h with
  | bb t n hn =>
    rw [rc.i_ty]
    have ht' : t ∈ tyAll := by
      rcases ht with ⟨m, hm, e⟩ | ⟨C, e⟩
      · cases e; exact hm
      · cases e
    exact ⟨_, .ty n, kit_ty (kitB_tab t ht' n (by simpa using hn))⟩
  | bo t C hC =>
    rw [rc.i_ref]
    have ht' : t ∈ tyAll := by
      rcases ht with ⟨m, hm, e⟩ | ⟨C, e⟩
      · cases e; exact hm
      · cases e
    refine ⟨_, .own C, ?_⟩
    have O := hT.own C hC
    have e2 : ((PySem.W.clsIn K C).isSome && PySem.W.typeIn K (.ref C) == some (.type "type")) = true := by
      have h1 : (PySem.W.clsIn K C).isSome = true := O.isC
      rw [h1, O.ty] <;> rfl
    show (if (Value.type t == Value.ref C) = true then some true else (if ((PySem.W.clsIn K C).isSome && PySem.W.typeIn K (.ref C) == some (.type "type")) = true then PySem.W.subIn K (.type t) (.ref C) else none)) = some false
    rw [if_neg (by show ¬ (false = true); decide), if_pos e2]
    exact noMro t ht' C
  | ob C n hC hn =>
    rw [rc.i_ty]
    refine ⟨_, .ty n, ?_⟩
    have O := hT.own C hC
    have hn' : n ∈ tyNames := by simpa using hn
    have hk : PySem.W.kitMeta n = true := by
      have : ∀ n ∈ tyNames, PySem.W.kitMeta n = true := by decide +kernel
      exact this n hn'
    show (if (Value.ref C == Value.type n) = true then some true else (if PySem.W.kitMeta n = true then PySem.W.subIn K (.ref C) (.type n) else none)) = some false
    rw [if_neg (by show ¬ (false = true); decide), if_pos hk]
    exact O.nb n hn'
  | oo C D b hC hs =>
    rw [rc.i_ref]
    exact ⟨_, .own D, hT.sub _ hs⟩
theorem isiRs_ok {T : OTab} (hT : T.Ok K) {t : Value} {cs : List Dv} {b : Bool} (ht : (∃ n ∈ tyAll, t = .type n) ∨ ∃ C, t = .ref C) (h : IsiRs T t cs b) {H : Hp} : ∀ {vs : List V}, RepL K H vs cs → ∃ us, Paired ClsV vs us ∧ PySem.W.kitAny K t us = some b := by
  induction h with
  | nil => intro vs r; rw [r.nil_i]; exact ⟨[], .nil, rfl⟩
  | @cons c cs b r hc _ ih =>
    intro vs rv
    obtain ⟨v, vs', rfl, r1, r2⟩ := rv.cons_i
    obtain ⟨u, k, e⟩ := isiR_ok hT ht hc r1
    obtain ⟨us, ks, es⟩ := ih r2
    refine ⟨u :: us, .cons k ks, kitAny_cons e (fun z => ?_) fun z => by rw [z]; rfl⟩
    rw [z, Bool.false_or]
    exact es
theorem isiR_own {T : OTab} {t : Value} {c : Dv} {b : Bool} (h : IsiR T t c b) (C : Addr) (e : t = .ref C) : C ∈ T.cs := by
  cases h with
  | bb => cases e
  | bo => cases e
  | ob C n hC => cases e; exact hC
  | oo C D b hC => cases e; exact hC
theorem l_isi {T : OTab} (hT : T.Ok K) : LRC K (fun xs H Q => rIsiY K xs H Q ∨ rIsiTY K xs H Q) (rdIsi T) := by
  intro vs H ds S Qh Q r hS h k
  unfold rdIsi at h
  split at h
  · rename_i d cs
    obtain ⟨v, u, rfl, r1, r2⟩ := two_i r
    obtain ⟨t, b, ht, hb, ho, q⟩ := h
    obtain ⟨a, us, rfl, ha, la⟩ := r2.i_tup
    obtain ⟨ws, k1, k2⟩ := isiRs_ok hT (tyD_in ht) hb la
    exact .inr ⟨v, a, us, _, _, _, rfl, ha, k1, tyD_ok r1 hS ht (fun C e => hT.own C (ho C e)), k2, k.now q (.bl _) hS⟩
  · rename_i d c
    obtain ⟨v, u, rfl, r1, r2⟩ := two_i r
    obtain ⟨t, b, ht, hb, q⟩ := h
    obtain ⟨w, k1, k2⟩ := isiR_ok hT (tyD_in ht) hb r2
    exact .inl ⟨v, u, _, _, b, rfl, k1, tyD_ok r1 hS ht (fun C e => hT.own C (isiR_own hb C e)), k2, k.now q (.bl _) hS⟩
  · exact h.elim
end
end VD

namespace VD
open PySem PySem.Spec PyProof.Rows L2

/-! ### a def keeps its promise -/
def startN (n : Nat) (ds : List Dv) : Rho := ds.map some ++ List.replicate (n - ds.length) none
/-- the reading of a def with so many names follows from its promise -/
def Rd (t : DS) (n : Nat) (sp : SpD) : Prop := ∀ ds S Q Xh, sp ds S Q Xh → t { nx := fun _ S' => Q .non S', rt := Q, ex := fun c da _ S' => Xh c da S' } (startN n ds) S
abbrev WF (E : XK) : WX := fun cls d _ H => E cls d H
section
variable {P : Program} {w : World} {K : PySem.W.Frag} {mg : Str → Option Value} {base : Heap}
theorem okD {x qual : Str} {st : Stmt} {f : Addr} {fd : FuncData} {N ps : List Str} {k : Nat} {sp : SpD} (F : Fun K x qual st f fd) (Sc : FnScope N ps (defScope st)) (len : ∀ ds S Q X, sp ds S Q X → ds.length = ps.length)
    (t : DS) (hb : ∀ (cdv : Value) (A : Around) (outer : List Env) (s : Shared) (H : Hp) (E : XK), RoomG k (A.deeper (envOfC qual (defScope st) s.heap.objs.size f cdv)) →
      PSs (cxOf (L2.CX P w) P w K mg base N qual (defScope st) f cdv A outer s H E) (defBody st) (lowS K (WF E) t))
    (hr : Rd t N.length sp) : FnD P w K mg base (k + 1) f fd ps sp := by
  refine funG F Sc (fun vs H Q E ⟨ds, S, Qh, Xh, r, a, h, _⟩ => by rw [r.length]; exact len _ _ _ _ h) fun cdv A outer s H vs Q E hr' ⟨ds, S, Qh, Xh, r, a, h, k1, k2⟩ => ?_
  refine ⟨_, hb cdv A outer s H E hr', startD N ds, S, _, RepS.start r, a, hr ds S Qh Xh h, ⟨fun ρ' S' σ' H' q t _ a => k1 .non S' .non H' q t .non a, k1, fun _ _ _ _ (q : False) => False.elim q, fun _ _ _ _ (q : False) => False.elim q, fun c da ρ' S' σ' H' q t _ a => k2 c da S' H' q t a⟩⟩
end

theorem tkF {P : Program} {w : World} {K : PySem.W.Frag} {mg : Str → Option Value} {base : Heap} {N : List Str} {qual : Str} {scope : Scope} {f : Addr} {cd : Value} {A : Around} {outer : List Env} {s : Shared} {H : Hp} {E : XK} :
    Takes (cxOf (L2.CX P w) P w K mg base N qual scope f cd A outer s H E) (WF E) := takes_of rfl rfl rfl rfl
theorem d_ty {X : Cx} {W : WX} {x : Str} {n : String} {pos : Pos} (hm : X.mg x = none) (hv : bootBuiltins x = some (.type n)) (hg : Gl X x := by rfl) (hn : x ≠ "__name__" := by decide) (hd : (x == ("__debug__" : Str)) = false := by decide) :
    PE X (.Name x pos) (low X.K W (dC (.ty n))) := d_bltn (v := .ty n) hm hv rfl (fun _ => .ty n) hg hn hd
/-! ### written values -/
section
variable {K : PySem.W.Frag}
theorem v_int {i : Int} {t : Tok} : VRep K (.int i t) (.int i) := .mk (v := .int i) ⟨t, rfl⟩ fun _ => .int i
theorem v_str {i : Str} {t : Tok} : VRep K (.str i t) (.str i) := .mk (v := .str i) ⟨t, rfl⟩ fun _ => .str i
theorem v_bl {i : Bool} : VRep K (.bool i) (.bl i) := .mk (v := .bl i) rfl fun _ => .bl i
theorem v_non : VRep K .none .non := .mk (v := .non) rfl fun _ => .non
theorem v_ty {n : String} : VRep K (.type n) (.ty n) := .mk (v := .ty n) rfl fun _ => .ty n
theorem v_ref {a : Addr} : VRep K (.ref a) (.ref a) := .mk (v := .ref a) rfl fun _ => .ref a
inductive VReps (K : PySem.W.Frag) : List Value → List Dv → Prop
  | nil : VReps K [] []
  | cons {u : Value} {us : List Value} {d : Dv} {ds : List Dv} : VRep K u d → VReps K us ds → VReps K (u :: us) (d :: ds)
theorem VReps.rep : ∀ {us : List Value} {ds : List Dv}, VReps K us ds → ∃ vs, Vals vs us ∧ ∀ H, RepL K H vs ds
  | _, _, .nil => ⟨[], .nil, fun _ => .nil⟩
  | _, _, .cons (.mk r h) t => by
    obtain ⟨vs, h1, h2⟩ := VReps.rep t
    exact ⟨_ :: vs, .cons r h1, fun H => .cons (h H) (h2 H)⟩
theorem v_tup {a : Addr} {us : List Value} {ds : List Dv} {dd : Option Addr} {n : Nat} {sl : Array (Option Value)} (l : K.lookup a = some ⟨.type "tuple", dd, .seq us.toArray n, sl⟩) (r : VReps K us ds) (hz : us.length ≤ sizeLine := by first | decide | (simp only [List.length_cons, List.length_nil]; decide)) : VRep K (.ref a) (.tup ds) := by
  obtain ⟨vs, h1, h2⟩ := r.rep
  exact .mk (v := .ref a) rfl fun H => .tup (.inr ⟨_, us.toArray, n, l, rfl, rfl, by simpa using hz, by simpa using h1⟩) (h2 H)
end

theorem bt_int : bootBuiltins "int" = some (.type "int") := by decide +kernel
theorem bt_bool : bootBuiltins "bool" = some (.type "bool") := by decide +kernel
theorem bt_str : bootBuiltins "str" = some (.type "str") := by decide +kernel
theorem bt_tuple : bootBuiltins "tuple" = some (.type "tuple") := by decide +kernel
theorem bt_list : bootBuiltins "list" = some (.type "list") := by decide +kernel
theorem bt_dict : bootBuiltins "dict" = some (.type "dict") := by decide +kernel
theorem bt_range : bootBuiltins "range" = some (.type "range") := by decide +kernel
theorem bt_set : bootBuiltins "set" = some (.type "set") := by decide +kernel
theorem bt_enumerate : bootBuiltins "enumerate" = some (.type "enumerate") := by decide +kernel
theorem bt_zip : bootBuiltins "zip" = some (.type "zip") := by decide +kernel
theorem bt_reversed : bootBuiltins "reversed" = some (.type "reversed") := by decide +kernel
theorem bt_len : bootBuiltins "len" = some (.builtin "len") := by decide +kernel
theorem bt_isinstance : bootBuiltins "isinstance" = some (.builtin "isinstance") := by decide +kernel
theorem bt_all : bootBuiltins "all" = some (.builtin "all") := by decide +kernel
theorem bt_any : bootBuiltins "any" = some (.builtin "any") := by decide +kernel
theorem bt_abs : bootBuiltins "abs" = some (.builtin "abs") := by decide +kernel
theorem bt_min : bootBuiltins "min" = some (.builtin "min") := by decide +kernel
theorem bt_max : bootBuiltins "max" = some (.builtin "max") := by decide +kernel
theorem bt_sum : bootBuiltins "sum" = some (.builtin "sum") := by decide +kernel
theorem bt_sorted : bootBuiltins "sorted" = some (.builtin "sorted") := by decide +kernel
theorem bt_repr : bootBuiltins "repr" = some (.builtin "repr") := by decide +kernel
theorem bt_ord : bootBuiltins "ord" = some (.builtin "ord") := by decide +kernel
theorem bt_chr : bootBuiltins "chr" = some (.builtin "chr") := by decide +kernel
/-! ### an own exception without fields -/
section
variable {X : Cx} {C : Addr} {bmB : List Value} {B newId initId : String}
theorem pmk_own0 {x : Str} {p pos : Pos} (F : ExcBaseFacts B newId initId bmB) (q : PySem.W.excIn X.K C bmB newId = true) (gC : X.mg x = some (.ref C)) (kC : PySem.W.keepIn X.K (.ref C) = true) (r : Raises X (.ref C)) (hg : Gl X x)
    (hdb : (x == ("__debug__" : Str)) = false := by decide) : PMk X (.Call (.Name x p) [] [] pos) (fun _ H Q => Q (.ref C) none H) := by
  intro pins s σ H Q I h
  refine wpAny_Call_Name_kw (ld_glob I hg gC ?_ hdb)
  refine PySem.W.callWith_K0 I.kIn kC ?_
  show wpAny _ _ (call (.ref C) []) _ _ _
  obtain ⟨bm, N, nm, qn, bs, hdct, sn, sub, ab, col, dd, k0, k1, k2, k3, k5, mN, hC, hN, hni, T⟩ := exc_obj I.kIn q
  refine wpAny_call_exc_subT F T hC hN hni (fun h' e hm => ?_) (by show 0 ≤ sizeLine; exact Nat.zero_le _)
  exact mk_of I hm r h (I.hok.gone hm.new)
/-- what the written part says of such a class -/
structure Exc0 (K : PySem.W.Frag) (C : Addr) : Prop where
  q : PySem.W.excIn K C [.type "ValueError", .type "Exception", .type "BaseException", .type "object"] "ValueError.__new__" = true
  kp : PySem.W.keepIn K (.ref C) = true
  sb : PySem.W.subIn K (.ref C) (.type "BaseException") = some true
  ty : PySem.W.typeIn K (.ref C) = some (.type "type")
def dRaise (cls : Value) : DS := fun D ρ S => D.ex cls none ρ S
theorem s_raise0 {W : WX} {x : Str} {p pos' pos : Pos} (hc : X.calm = true) (tk : Takes X W) (T : Exc0 X.K C) (gC : X.mg x = some (.ref C)) (hg : Gl X x := by rfl) (hdb : (x == ("__debug__" : Str)) = false := by decide) :
    PS X (.Raise (some (.Call (.Name x p) [] [] pos')) none pos) (lowS X.K W (dRaise (.ref C))) := psi (ps_raise hc tk (pmk_own0 PySem.F.excBase_ValueError T.q gC T.kp (raises_own T.sb T.ty) hg hdb)) fun D σ H ⟨ρ, S, Dh, hσ, hS, h, k⟩ => k.ex _ _ ρ S σ H h (Tk.refl H) hσ hS
end

/-! ### methods of lists -/
abbrev RDM := Dv → List Dv → Sto → QD → Prop
def LRM (K : PySem.W.Frag) (r : V → List V → Hp → VK → Prop) (rd : RDM) : Prop := ∀ x vs H d ds S Qh Q, Rep K H x d → RepL K H vs ds → Abs K H S → rd d ds S Qh → Lk K H Qh Q → r x vs H Q
def isLst (d : Dv) (S : Sto) : Prop := match d with
  | .ref a => match S a with
    | some (.lst _) => True
    | _ => False
  | _ => False
def dBM (rd : RDM) (do_ : DE) (das : DA) : DE := fun ρ S Q X => do_ ρ S (fun x S1 => isLst x S1 ∧ das ρ S1 (fun ds S2 => rd x ds S2 Q) X) X
section
variable {K : PySem.W.Frag} {X : Cx} {W : WX} {o e : Expr} {es : List Expr} {do_ : DE} {das : DA}
theorem isLst_ty {H : Hp} {S : Sto} {d : Dv} {v : V} (r : Rep K H v d) (hS : Abs K H S) (h : isLst d S) : tyV K "list" v H := by
  unfold isLst at h
  split at h
  · rename_i a
    split at h
    · rename_i xs ea
      obtain ⟨us, h1, l⟩ := hS _ _ ea
      rw [r.i_ref]
      exact .inl ⟨rfl, us, .inl (.inl h1)⟩
    · exact h.elim
  · exact h.elim
theorem low_bm {r : V → List V → Hp → VK → Prop} {rd : RDM} (hl : LRM X.K r rd) : ∀ σ H Q, low X.K W (dBM rd do_ das) σ H Q → tBM X.K "list" r (low X.K W do_) (lowA X.K W das) σ H Q := fun σ H Q ⟨ρ, S, Qh, Xh, hσ, hS, h, k, x⟩ =>
  ⟨ρ, S, _, Xh, hσ, hS, h, fun d S1 v H1 q t rr a => ⟨isLst_ty rr a q.1, ρ, S1, _, Xh, hσ.mono t, a, q.2, fun ds S2 vs H2 q2 t2 r2 a2 => hl v vs H2 d ds S2 Qh Q (rr.mono t2) r2 a2 q2 (k.mono (t.trans t2)), x.mono t⟩, x⟩
def rdAppend : RDM := fun x ds S Q => match x, ds with
  | .ref a, [y] => match S a with
    | some (.lst xs) => xs.length < sizeLine ∧ Q .non (put S a (.lst (xs ++ [y])))
    | _ => False
  | _, _ => False
theorem l_append : LRM K rAppend rdAppend := by
  intro x vs H d ds S Qh Q rx r hS h k
  unfold rdAppend at h
  split at h
  · rename_i a y
    obtain ⟨v, rfl, r1⟩ := one_i r
    split at h
    · rename_i xs ea
      obtain ⟨us, h1, l⟩ := hS _ _ ea
      have tw : Tk K H (upd H a (.lst (us ++ [v]))) := Tk.write h1 wr_lst
      exact ⟨a, us, v, rx.i_ref, rfl, h1, by rw [l.length]; exact h.1, k _ _ _ _ h.2 tw .non (hS.write h1 wr_lst (.mlst upd_same ((l.mono tw).append (.cons (r1.mono tw) .nil))))⟩
    · exact h.elim
  · exact h.elim
end
theorem d_bm {X : Cx} {W : WX} {o e : Expr} {es : List Expr} {do_ : DE} {das : DA} {apos cpos : Pos} {name : Str} {id : String} {r : V → List V → Hp → VK → Prop} {rd : RDM} (slot : Slot "list" name id) (hty : typeOf (.builtin id) = pure (.type "method_descriptor")) (hm : MtR X id r) (hl : LRM X.K r rd)
    (ho : PE X o (low X.K W do_)) (ha : PA X (e :: es) (lowA X.K W das)) (hbase : attributeBase o name X.env (eval o X.env) = eval o X.env := by rfl)
    (hfew : ((backTo cpos (starEach (e :: es) X.env)).all (fun x => !x.1) && (backToKw cpos (keywordEach [] X.env)).all (fun x => x.1.isSome)
      && decide ((e :: es).length + ([] : List Keyword).length + (if ([] : List Keyword).isEmpty then 0 else 1) < 30)) = true := by rfl)
    (hline : (apos.endLine == cpos.line) = true := by rfl) (hs : starEach (e :: es) X.env = (false, eval e X.env) :: starEach es X.env := by rfl) (hplain : (backTo cpos (starEach es X.env)).any (·.1) = false := by rfl) :
    PE X (.Call (.Attribute o name apos) (e :: es) [] cpos) (low X.K W (dBM rd do_ das)) := pei (pe_bm PySem.F.plainAttrs_list slot hty hm ho ha hbase hfew hline hs hplain) (low_bm hl)

/-! ### the end of a law -/
/-- a law's promise -/
def spLaw : SpD := fun ds S Q _ => ∃ ns : List Int, ds = [.rol (ns.map Dv.int)] ∧ ns.length ≤ 63 ∧ S = (fun _ => none) ∧ ∀ S', Q (.bl true) S'
theorem law_in {K : PySem.W.Frag} {H : Hp} {a : Addr} {ns : List Int} (hl : ns.length ≤ 63) (h : CL K H a (ns.map V.int)) : lowF K spLaw [.ref a] H (fun v _ => v = .bl true) fun _ _ _ => False := by
  refine ⟨[.rol (ns.map Dv.int)], fun _ => none, fun d _ => d = .bl true, X0, .cons (.rol h (.of_ints ns)) .nil, ?_, ⟨ns, rfl, hl, rfl, fun _ => rfl⟩, ?_, ?_⟩
  · intro a m e
    cases e
  · intro d S' v H' q t r a
    have q' : d = .bl true := q
    subst q'
    exact r.i_bl
  · intro c da S' H' q
    exact False.elim q
theorem law_out {P : Program} {w : World} (H : Hp) (s : Shared) (e : Value) (s' : Shared) (h : L2.CX P w [] H s (fun _ _ _ => False) e s') : False := by
  obtain ⟨_, _, _, _, _, _, _, _, _, _, _, _, z⟩ := h
  exact z
end VD

namespace VD
open PySem PySem.Spec PyProof.Rows L2

/-- a comprehension whose element is a function of the item and leaves the store -/
theorem lc_pure {g : DG} {te : DE} {vs : List Nat} {ρ : Rho} {Q : QD} {items : List Dv} {stay : Sto → Prop} {S : Sto} (f : Dv → Dv) (hl : items.length ≤ sizeLine) (hst : ∀ p m, S p = none → stay (put S p m))
    (he : ∀ x ∈ items, ∀ (T : Sto) (K : QD), Sub S T → K (f x) T → g x (wipeD ρ vs) T fun ρ2 S2 => te ρ2 S2 K X0) (hQ : ∀ p, S p = none → Q (.ref p) (put S p (.lst (items.map f)))) : LcGo g dYes te vs ρ Q items stay S := by
  intro p hp
  refine ⟨fun i T => T = put S p (.lst ((items.take i).map f)), rfl, fun i T _ h => by rw [h]; exact hst p _ hp, fun i x T hx h => ?_, fun T h => ?_⟩
  · subst h
    refine he x (List.mem_of_getElem? hx) _ _ (Sub.new hp) ?_
    refine ⟨(items.take i).map f, put_same, ?_, ?_⟩
    · rw [List.length_map, List.length_take]
      have := (List.getElem?_eq_some_iff.mp hx).1
      omega
    · show put _ _ _ = put _ _ _
      rw [put_put, List.take_add_one, hx, List.map_append]
      rfl
  · rw [show T = _ from h, List.take_length]
    exact hQ p hp
/-- .. with one test -/
theorem lc_filter {g : DG} {tt : DT} {te : DE} {vs : List Nat} {ρ : Rho} {Q : QD} {items : List Dv} {stay : Sto → Prop} {S : Sto} (c : Dv → Bool) (f : Dv → Dv) (hl : items.length ≤ sizeLine) (hst : ∀ p m, S p = none → stay (put S p m))
    (he : ∀ x ∈ items, ∀ (T : Sto) (K : QD) (N : Sto → Prop), Sub S T → (c x = true → K (f x) T) → (c x = false → N T) → g x (wipeD ρ vs) T fun ρ2 S2 => tt ρ2 S2 (fun b S3 => if b = true then te ρ2 S3 K X0 else N S3) X0) (hQ : ∀ p, S p = none → Q (.ref p) (put S p (.lst ((items.filter c).map f)))) : LcGo g tt te vs ρ Q items stay S := by
  intro p hp
  refine ⟨fun i T => T = put S p (.lst (((items.take i).filter c).map f)), rfl, fun i T _ h => by rw [h]; exact hst p _ hp, fun i x T hx h => ?_, fun T h => ?_⟩
  · subst h
    refine he x (List.mem_of_getElem? hx) _ _ _ (Sub.new hp) (fun hc => ?_) (fun hc => ?_)
    · refine ⟨((items.take i).filter c).map f, put_same, ?_, ?_⟩
      · rw [List.length_map]
        have h1 := (List.getElem?_eq_some_iff.mp hx).1
        have h2 := List.length_filter_le c (items.take i)
        rw [List.length_take] at h2
        omega
      · show put _ _ _ = put _ _ _
        rw [put_put, List.take_add_one, hx]
        simp [List.filter_append, hc]
    · show put _ _ _ = put _ _ _
      rw [List.take_add_one, hx]
      simp [List.filter_append, hc]
  · rw [show T = _ from h, List.take_length]
    exact hQ p hp
/-- a sequence by what holds between the two -/
theorem cut_seq {a b : DS} {D : DEnds} {ρ : Rho} {S : Sto} (M : Rho → Sto → Prop) (h1 : ∀ N : Rho → Sto → Prop, (∀ ρ S, M ρ S → N ρ S) → a { D with nx := N } ρ S) (h2 : ∀ ρ S, M ρ S → b D ρ S) : dSeq a b D ρ S := h1 _ h2
/-- a loop over names and a store by an invariant -/
theorem for_go {g : DG} {tb : DS} {D : DEnds} {ρ : Rho} {items : List Dv} {stay : Sto → Prop} {S : Sto} (Wv : Nat → Rho → Sto → Prop) (h0 : Wv 0 ρ S) (hst : ∀ i ρ S, i ≤ items.length → Wv i ρ S → stay S)
    (hs : ∀ i x ρ S, items[i]? = some x → Wv i ρ S → g x ρ S fun ρ2 S2 => tb { D with nx := Wv (i + 1), ct := Wv (i + 1), bk := D.nx } ρ2 S2) (hd : ∀ ρ S, Wv items.length ρ S → D.nx ρ S) : ForGo g tb D ρ items stay S := ⟨Wv, h0, hst, hs, hd⟩
theorem atI_lt {α : Type} {xs : List α} {i : Int} (h0 : 0 ≤ i) (h : i < xs.length) : atI xs i = xs[i.toNat]? := by
  unfold atI ixN
  rw [if_pos h0, if_pos h]
  rfl
theorem atI_cons0 {α : Type} (x : α) (xs : List α) : atI (x :: xs) 0 = some x := by
  rw [atI_lt (Int.le_refl 0) (by simp)]; rfl
theorem ixN_lt {n : Nat} {i : Int} (h0 : 0 ≤ i) (h : i < n) : ixN n i = some i.toNat := by
  unfold ixN
  rw [if_pos h0, if_pos h]
theorem atI_nn {α : Type} {xs : List α} {i : Int} (h0 : 0 ≤ i) : atI xs i = xs[i.toNat]? := by
  unfold atI ixN
  rw [if_pos h0]
  by_cases h : i < xs.length
  · rw [if_pos h]; rfl
  · rw [if_neg h, List.getElem?_eq_none (by omega)]; rfl
theorem atI_0 {α : Type} {xs : List α} : atI xs 0 = xs[0]? := atI_nn (by decide)
theorem atI_1 {α : Type} {xs : List α} : atI xs 1 = xs[1]? := atI_nn (by decide)
theorem atI_2 {α : Type} {xs : List α} : atI xs 2 = xs[2]? := atI_nn (by decide)
theorem atI_3 {α : Type} {xs : List α} : atI xs 3 = xs[3]? := atI_nn (by decide)
theorem atI_4 {α : Type} {xs : List α} : atI xs 4 = xs[4]? := atI_nn (by decide)
theorem atI_5 {α : Type} {xs : List α} : atI xs 5 = xs[5]? := atI_nn (by decide)
theorem atI_6 {α : Type} {xs : List α} : atI xs 6 = xs[6]? := atI_nn (by decide)
theorem atI_7 {α : Type} {xs : List α} : atI xs 7 = xs[7]? := atI_nn (by decide)
theorem ixN_30 : ixN 3 0 = some 0 := rfl
theorem ixN_31 : ixN 3 1 = some 1 := rfl
theorem ixN_32 : ixN 3 2 = some 2 := rfl
theorem ixN_50 : ixN 5 0 = some 0 := rfl
theorem ixN_51 : ixN 5 1 = some 1 := rfl
theorem ixN_52 : ixN 5 2 = some 2 := rfl
theorem ixN_53 : ixN 5 3 = some 3 := rfl
theorem ixN_54 : ixN 5 4 = some 4 := rfl
theorem cut_take {α : Type} {xs : List α} {k : Int} (h : 0 ≤ k) : cutD xs none (some k) = xs.take k.toNat := by
  unfold cutD
  obtain ⟨n, rfl⟩ := Int.eq_ofNat_of_zero_le h
  show (xs.drop (HT.sIx xs.length 0 none)).take (HT.sIx xs.length xs.length (some (n : Int)) - HT.sIx xs.length 0 none) = _
  rw [HT.sIx_none, HT.sIx_nat, List.drop_zero, Nat.sub_zero]
  simp
theorem cut_drop {α : Type} {xs : List α} {k : Int} (h : 0 ≤ k) : cutD xs (some k) none = xs.drop k.toNat := by
  unfold cutD
  obtain ⟨n, rfl⟩ := Int.eq_ofNat_of_zero_le h
  show (xs.drop (HT.sIx xs.length 0 (some (n : Int)))).take (HT.sIx xs.length xs.length none - HT.sIx xs.length 0 (some (n : Int))) = _
  rw [HT.sIx_none, HT.sIx_nat]
  by_cases hn : n ≤ xs.length
  · rw [Nat.min_eq_left hn, show (Int.toNat (n : Int)) = n from rfl, List.take_of_length_le (by simp)]
  · rw [Nat.min_eq_right (by omega), List.drop_eq_nil_of_le (Nat.le_refl _), List.drop_eq_nil_of_le (by simp; omega)]
    simp
theorem cut_neg {α : Type} {xs : List α} {k : Nat} : cutD xs none (some (-((k : Int) + 1))) = xs.take (xs.length - (k + 1)) := by
  unfold cutD
  have e : HT.sIx xs.length xs.length (some (-((k : Int) + 1))) = xs.length - (k + 1) := by
    show (if (-((k : Int) + 1)) < 0 then (-((k : Int) + 1) + (xs.length : Int)).toNat else min (-((k : Int) + 1)).toNat xs.length) = _
    rw [if_pos (by omega)]
    omega
  rw [HT.sIx_none, e, List.drop_zero, Nat.sub_zero]
/-! equal tuples of ints -/
theorem isDL_ints : ∀ ns : List Int, isDL (ns.map Dv.int) = true
  | [] => rfl
  | n :: ns => by rw [List.map_cons]; simp [isDL, isD, isDL_ints ns]
theorem canLay_ints : ∀ ns : List Int, PyData.canLayAll0 (pyL (ns.map Dv.int)) = true
  | [] => rfl
  | n :: ns => by rw [List.map_cons]; simp [pyL, py, PyData.canLayAll0, PyData.canLay0, canLay_ints ns]
theorem depth_ints : ∀ ns : List Int, PyData.depthAll (pyL (ns.map Dv.int)) ≤ 1
  | [] => by simp [pyL, PyData.depthAll]
  | n :: ns => by
    have := depth_ints ns
    rw [List.map_cons]
    simp [pyL, py, PyData.depthAll, PyData.depth]
    omega
theorem shp_ints (ns : List Int) : shp (.tup (ns.map Dv.int)) = true := by
  unfold shp SeqAt.shaped
  have h := depth_ints ns
  simp [isD, py, isDL_ints, PyData.canLay0, canLay_ints, PyData.depth]
  omega
theorem shp_non : shp .non = true := by decide
theorem eqvL_ints : ∀ xs ys : List Int, eqvL (xs.map Dv.int) (ys.map Dv.int) = decide (xs = ys)
  | [], [] => rfl
  | [], _ :: _ => rfl
  | _ :: _, [] => rfl
  | x :: xs, y :: ys => by
    have := eqvL_ints xs ys
    unfold eqvL at this ⊢
    rw [List.map_cons, List.map_cons]
    simp only [pyL, py, PyData.eqvAll, PyData.eqv, this]
    rw [Bool.eq_iff_iff]
    simp
end VD

namespace VD
open PySem PySem.Spec PyProof.Rows L2
/-- a promise that nobody can ask for -/
theorem fn_never {P : Program} {w : World} {K : PySem.W.Frag} {mg : Str → Option Value} {base : Heap} {k : Nat} {f : Addr} {fd : FuncData} {ps : List Str} {sp : SpD} (h : ∀ ds S Q X, sp ds S Q X → False) : FnD P w K mg base k f fd ps sp :=
  ⟨fun vs H Q E ⟨ds, S, Qh, Xh, _, _, z, _⟩ => (h _ _ _ _ z).elim, fun A outer s H args us vs Q E _ _ _ _ ⟨ds, S, Qh, Xh, _, _, z, _⟩ => (h _ _ _ _ z).elim⟩
/-! ### zip, enumerate -/
def pairs (xs ys : List Dv) : List Dv := List.zipWith (fun x y => .tup [x, y]) xs ys
theorem pairs_get {xs ys : List Dv} {i : Nat} {z : Dv} (h : (pairs xs ys)[i]? = some z) : ∃ x y, xs[i]? = some x ∧ ys[i]? = some y ∧ z = .tup [x, y] := by
  unfold pairs at h
  rw [List.getElem?_zipWith] at h
  split at h
  · rename_i x y h1 h2
    cases h
    exact ⟨x, y, h1, h2, rfl⟩
  · cases h
theorem pairs_len {xs ys : List Dv} : (pairs xs ys).length = min xs.length ys.length := by unfold pairs; simp
/-- this list is still there -/
def isL (d : Dv) (S : Sto) (xs : List Dv) : Prop := lstOf d S fun zs => zs = xs
section
variable {K : PySem.W.Frag} {H0 : Hp} {a b : Addr} {us vs : List V} {xs ys : List Dv}
theorem rep2 {H : Hp} {T : Addr} {x y : V} {dx dy : Dv} (hT : H T = none) (rx : Rep K H x dx) (ry : Rep K H y dy) : Rep K (upd H T (.tup [x, y])) (.ref T) (.tup [dx, dy]) :=
  .tup (.inl (.inl upd_same)) (.cons (rx.mono (Tk.new hT)) (.cons (ry.mono (Tk.new hT)) .nil))
theorem it_zipT (h1 : SqT K H0 a us) (l1 : RepL K H0 us xs) (h2 : SqT K H0 b vs) (l2 : RepL K H0 vs ys) : ItD K H0 (RZ.ItzT K a b) (pairs xs ys) (fun _ => True) := by
  refine ⟨fun i H S z t ha _ hz => ?_, fun H S t ha _ => ⟨us, vs, t.t _ _ h1, t.t _ _ h2, ?_⟩⟩
  · obtain ⟨x, y, ex, ey, rfl⟩ := pairs_get hz
    obtain ⟨v, ev, rv⟩ := l1.get ex
    obtain ⟨u, eu, ru⟩ := l2.get ey
    refine ⟨⟨us, vs, v, u, t.t _ _ h1, t.t _ _ h2, ev, eu⟩, fun q H' ⟨T, x', y', e1, e2, e3, e4, e5⟩ => ?_⟩
    subst e1 e3
    have g1 := e4 us (t.t _ _ h1)
    have g2 := e5 vs (t.t _ _ h2)
    rw [ev] at g1; rw [eu] at g2
    cases g1; cases g2
    exact ⟨Tk.new e2, rep2 e2 (rv.mono t) (ru.mono t), ha.tup e2⟩
  · rw [pairs_len, ← l1.length, ← l2.length]
    omega
/-- a list read by its data -/
theorem lst_at {H : Hp} {S : Sto} {v : V} {d : Dv} {ds : List Dv} (r : Rep K H0 v d) (t : Tk K H0 H) (ha : Abs K H S) (s : isL d S ds) : ∃ p ws, v = .ref p ∧ SqL K H p ws ∧ RepL K H ws ds := by
  obtain ⟨p, ws, zs, e, hl, rl, rfl⟩ := lstOf_i (r.mono t) ha s
  exact ⟨p, ws, e, hl, rl⟩
theorem it_zipL {dx dy : Dv} (r1 : Rep K H0 (.ref a) dx) (r2 : Rep K H0 (.ref b) dy) : ItD K H0 (Itz K a b) (pairs xs ys) (fun S => isL dx S xs ∧ isL dy S ys) := by
  refine ⟨fun i H S z t ha st hz => ?_, fun H S t ha st => ?_⟩
  · obtain ⟨x, y, ex, ey, rfl⟩ := pairs_get hz
    obtain ⟨p, ws, e1, hl1, l1⟩ := lst_at r1 t ha st.1
    obtain ⟨p', ws', e1', hl2, l2⟩ := lst_at r2 t ha st.2
    cases e1; cases e1'
    obtain ⟨v, ev, rv⟩ := l1.get ex
    obtain ⟨u, eu, ru⟩ := l2.get ey
    refine ⟨⟨ws, ws', v, u, hl1, hl2, ev, eu⟩, fun q H' ⟨T, x', y', e1, e2, e3, e4, e5⟩ => ?_⟩
    subst e1 e3
    have g1 := e4 ws hl1
    have g2 := e5 ws' hl2
    rw [ev] at g1; rw [eu] at g2
    cases g1; cases g2
    exact ⟨Tk.new e2, rep2 e2 rv ru, ha.tup e2⟩
  · obtain ⟨p, ws, e1, hl1, l1⟩ := lst_at r1 t ha st.1
    obtain ⟨p', ws', e1', hl2, l2⟩ := lst_at r2 t ha st.2
    cases e1; cases e1'
    refine ⟨ws, ws', hl1, hl2, ?_⟩
    rw [pairs_len, ← l1.length, ← l2.length]
    omega
/-- the pairs of a count and an item -/
def counted (xs : List Dv) : List Dv := xs.mapIdx fun i x => .tup [.int i, x]
theorem counted_get {i : Nat} {z : Dv} (h : (counted xs)[i]? = some z) : ∃ x, xs[i]? = some x ∧ z = .tup [.int i, x] := by
  unfold counted at h
  rw [List.getElem?_mapIdx, Option.map_eq_some_iff] at h
  obtain ⟨x, h1, h2⟩ := h
  exact ⟨x, h1, h2.symm⟩
theorem counted_len : (counted xs).length = xs.length := by unfold counted; simp
theorem it_enumL {dx : Dv} (r1 : Rep K H0 (.ref a) dx) : ItD K H0 (Ite K a) (counted xs) (fun S => isL dx S xs) := by
  refine ⟨fun i H S z t ha st hz => ?_, fun H S t ha st => ?_⟩
  · obtain ⟨x, ex, rfl⟩ := counted_get hz
    obtain ⟨p, ws, e1, hl1, l1⟩ := lst_at r1 t ha st
    cases e1
    obtain ⟨v, ev, rv⟩ := l1.get ex
    refine ⟨⟨ws, v, hl1, ev⟩, fun q H' ⟨T, x', e1, e2, e3, e4⟩ => ?_⟩
    subst e1 e3
    have g1 := e4 ws hl1
    rw [ev] at g1
    cases g1
    exact ⟨Tk.new e2, rep2 e2 (.int _) rv, ha.tup e2⟩
  · obtain ⟨p, ws, e1, hl1, l1⟩ := lst_at r1 t ha st
    cases e1
    refine ⟨ws, hl1, ?_⟩
    rw [counted_len, ← l1.length]
    exact Nat.le_refl _
end
section
variable {X : Cx} {W : WX} {e e2 : Expr} {das : DA} {p pos tpos : Pos} {elts : List Expr} {kk : Nat}
def iZipD (das : DA) : DI := fun ρ S R X => das ρ S (fun ds S1 => match ds with
  | [.tup xs, .tup ys] => R (pairs xs ys) (fun _ => True) S1
  | [d, e] => lstOf d S1 fun xs => lstOf e S1 fun ys => R (pairs xs ys) (fun S => isL d S xs ∧ isL e S ys) S1
  | _ => False) X
theorem lstOf_imp {d : Dv} {S : Sto} {R R' : List Dv → Prop} (h : lstOf d S R) (i : ∀ xs, isL d S xs → R xs → R' xs) : lstOf d S R' := by
  unfold isL lstOf at i
  unfold lstOf at h ⊢
  split at h
  · exact i _ rfl h
  · split at h
    · rename_i hs
      simp only [hs] at i ⊢
      exact i _ rfl h
    · exact h.elim
  · exact h.elim
theorem lstOf_ex {d : Dv} {S : Sto} {R : List Dv → Prop} (h : lstOf d S R) : ∃ xs, isL d S xs ∧ R xs := by
  unfold isL
  unfold lstOf at h ⊢
  split at h
  · exact ⟨_, rfl, h⟩
  · split at h
    · rename_i hs
      simp only [hs]
      exact ⟨_, rfl, h⟩
    · exact h.elim
  · exact h.elim
theorem i_zip (hm : X.mg "zip" = none) (ha : PA X [e, e2] (lowA X.K W das)) (hg : Gl X "zip" := by rfl) (hs : starEach [e, e2] X.env = (false, eval e X.env) :: starEach [e2] X.env := by rfl) (hpl : (backTo pos (starEach [e2] X.env)).any (·.1) = false := by rfl) :
    PI X (.Tuple elts kk tpos) (.Call (.Name "zip" p) [e, e2] [] pos) (lowI X.K W (iZipD das)) := pii (RZ.pi_zipA hg hm ha hs hpl) fun σ H R ⟨ρ, S, Rh, Xh, hσ, hS, h, k, x⟩ => by
  refine ⟨ρ, S, _, Xh, hσ, hS, h, fun ds S1 vs H1 q t r a => ?_, x⟩
  dsimp only at q
  split at q
  · rename_i xs ys
    obtain ⟨v, u, rfl, r1, r2⟩ := two_i r
    obtain ⟨c, us, rfl, hc, lc⟩ := r1.i_tup
    obtain ⟨d, ws, rfl, hd, ld⟩ := r2.i_tup
    exact ⟨c, d, us, ws, rfl, .inr ⟨hc, hd, k _ _ S1 _ H1 q t a (it_zipT hc lc hd ld)⟩⟩
  · rename_i d1 d2 _
    obtain ⟨v, u, rfl, r1, r2⟩ := two_i r
    obtain ⟨xs, s1, q⟩ := lstOf_ex q
    obtain ⟨ys, s2, q⟩ := lstOf_ex q
    obtain ⟨c, us, rfl, hc, lc⟩ := lst_at r1 (Tk.refl H1) a s1
    obtain ⟨d, ws, rfl, hd, ld⟩ := lst_at r2 (Tk.refl H1) a s2
    exact ⟨c, d, us, ws, rfl, .inl ⟨hc, hd, k _ _ S1 _ H1 q t a (it_zipL r1 r2)⟩⟩
  · exact q.elim
def iEnumD (das : DA) : DI := fun ρ S R X => das ρ S (fun ds S1 => match ds with
  | [d] => lstOf d S1 fun xs => R (counted xs) (fun S => isL d S xs) S1
  | _ => False) X
theorem i_enumL (hm : X.mg "enumerate" = none) (ha : PA X [e] (lowA X.K W das)) (hg : Gl X "enumerate" := by rfl) (hs : starEach [e] X.env = [(false, eval e X.env)] := by rfl) :
    PI X (.Tuple elts kk tpos) (.Call (.Name "enumerate" p) [e] [] pos) (lowI X.K W (iEnumD das)) := pii (pi_enum hg hm ha hs) fun σ H R ⟨ρ, S, Rh, Xh, hσ, hS, h, k, x⟩ => by
  refine ⟨ρ, S, _, Xh, hσ, hS, h, fun ds S1 vs H1 q t r a => ?_, x⟩
  dsimp only at q
  split at q
  · obtain ⟨v, rfl, r1⟩ := one_i r
    obtain ⟨xs, s1, q⟩ := lstOf_ex q
    obtain ⟨c, us, rfl, hc, lc⟩ := lst_at r1 (Tk.refl H1) a s1
    exact ⟨c, us, rfl, hc, k _ _ S1 _ H1 q t a (it_enumL r1)⟩
  · exact q.elim
end
end VD

namespace VD
open PySem PySem.Spec PyProof.Rows L2
/-! ### try with except clauses (no names) -/
/-- which clause takes an exception: of each clause, the classes it is known to take or not -/
def wD : List (List (Value × Bool) × DS) → DEnds → Value → Option Addr → Rho → Sto → Prop
  | [], D, cls, da, ρ, S => D.ex cls da ρ S
  | (tab, s) :: r, D, cls, da, ρ, S => ∃ b, (cls, b) ∈ tab ∧ (b = true → s { D with ex := fun _ _ _ _ => False } ρ S) ∧ (b = false → wD r D cls da ρ S)
def dTry (b : DS) (l : List (List (Value × Bool) × DS)) : DS := fun D ρ S => b { D with ex := wD l D } ρ S
inductive HdsD (X : Cx) : List ExceptHandler → List (List (Value × Bool) × DS) → List (Value × (Addr → Value → Option Addr → TS)) → Prop
  | nil : HdsD X [] [] []
  | cons {x : Str} {c : Value} {s : DS} {tab : List (Value × Bool)} {b₀ : Stmt} {suite : List Stmt} {np pos' : Pos} {hds : List ExceptHandler} {l : List (List (Value × Bool) × DS)} {l' : List (Value × (Addr → Value → Option Addr → TS))}
      (hc : Names X x c) (ht : ∀ p ∈ tab, PySem.W.exmOne X.K p.1 c = some p.2) (hsu : ∀ (a : Addr) (pn : List (Addr × Obj)), PSs (X.suite a pn) (b₀ :: suite) (lowS X.K W0 s)) (r : HdsD X hds l l') :
      HdsD X (.ExceptHandler (some (.Name x np)) none (b₀ :: suite) pos' :: hds) ((tab, s) :: l) ((c, fun _ _ _ => lowS X.K W0 s) :: l')
theorem HdsD.ok {X : Cx} {hds : List ExceptHandler} {l : List (List (Value × Bool) × DS)} {l' : List (Value × (Addr → Value → Option Addr → TS))} (h : HdsD X hds l l') : HdsOk X hds l' := by
  induction h with
  | nil => exact .nil
  | cons hc ht hsu r ih => exact .cons hc (fun a oe cls d pn _ _ => hsu a _) ih
theorem HdsD.go {X : Cx} {W : WX} {H : Hp} {Dh : DEnds} {D : Ends} (k : LkS X.K W H Dh D) {hds : List ExceptHandler} {l : List (List (Value × Bool) × DS)} {l' : List (Value × (Addr → Value → Option Addr → TS))} (h : HdsD X hds l l') :
    ∀ cls da, LkG X.K H (wD l Dh cls da) (wMany X.K W D l' cls da) := by
  induction h with
  | nil => exact fun cls da => k.ex cls da
  | cons hc ht hsu r ih =>
    intro cls da ρ S σ' H' ⟨b, hb, hy, hn⟩ t rs a
    refine ⟨b, ht _ hb, fun e p hp => ⟨ρ, S, _, rs, a, hy e, ⟨k.nx.mono t, k.rt.mono t, k.bk.mono t, k.ct.mono t, fun _ _ _ _ _ _ q => q.elim⟩⟩, fun e => ih cls da ρ S σ' H' (hn e) t rs a⟩
theorem s_try {X : Cx} {W : WX} {body : List Stmt} {h₀ : ExceptHandler} {hds : List ExceptHandler} {b : DS} {l : List (List (Value × Bool) × DS)} {l' : List (Value × (Addr → Value → Option Addr → TS))} {pos : Pos} (tk : Takes X W)
    (hb : ∀ (W' : WX) (pn : List (Addr × Obj)) (xe : Value → Shared → Prop), Takes (X.tr pn xe) W' → PSs (X.tr pn xe) body (lowS X.K W' b)) (hh : HdsD X (h₀ :: hds) l l')
    (hs : X.stack = X.env :: X.outer := by rfl) (hf : X.env.frame = some X.env.locals := by rfl) : PS X (.Try body (h₀ :: hds) [] [] pos) (lowS X.K W (dTry b l)) :=
  psi (ps_try_many (tb := fun W' => lowS X.K W' b) hs hf tk (fun W' pn xe tk' _ => hb W' pn xe tk') hh.ok) fun D σ H ⟨ρ, S, Dh, hσ, hS, h, k⟩ =>
    ⟨ρ, S, { Dh with ex := wD l Dh }, hσ, hS, h, ⟨k.nx, k.rt, k.bk, k.ct, hh.go k⟩⟩
theorem nm_own {X : Cx} {x : Str} {c : Value} (h : X.mg x = some c) (hg : Gl X x := by rfl) (hd : (x == ("__debug__" : Str)) = false := by decide) : Names X x c := ⟨hg, hd, .inl h⟩
theorem tabs_nil {K : PySem.W.Frag} {c : Value} : ∀ p ∈ ([] : List (Value × Bool)), PySem.W.exmOne K p.1 c = some p.2 := fun _ h => by cases h
theorem tabs_cons {K : PySem.W.Frag} {c v : Value} {b : Bool} {tab : List (Value × Bool)} (h : PySem.W.exmOne K v c = some b) (r : ∀ p ∈ tab, PySem.W.exmOne K p.1 c = some p.2) : ∀ p ∈ (v, b) :: tab, PySem.W.exmOne K p.1 c = some p.2 := fun p hp => by
  rcases List.mem_cons.mp hp with rfl | hp
  · exact h
  · exact r p hp
theorem exm_mk {K : PySem.W.Frag} {S : Addr} {cls : Value} {b : Bool} (h1 : PySem.W.subIn K (.ref S) (.type "BaseException") = some true) (h2 : PySem.W.isClsIn K S = true) (h3 : PySem.W.typeIn K (.ref S) = some (.type "type")) (h4 : PySem.W.subIn K cls (.ref S) = some b) :
    PySem.W.exmOne K cls (.ref S) = some b := by
  have e1 : (PySem.W.subIn K (.ref S) (.type "BaseException") == some true) = true := by rw [h1] <;> rfl
  have e2 : ((PySem.W.clsIn K S).isSome && PySem.W.typeIn K (.ref S) == some (.type "type")) = true := by
    have h2' : (PySem.W.clsIn K S).isSome = true := h2
    rw [h2', h3] <;> rfl
  show (if (PySem.W.subIn K (.ref S) (.type "BaseException") == some true) = true then (if ((PySem.W.clsIn K S).isSome && PySem.W.typeIn K (.ref S) == some (.type "type")) = true then PySem.W.subIn K cls (.ref S) else none) else none) = some b
  rw [if_pos e1, if_pos e2]
  exact h4
/-! ### is True -/
def isBlV : Dv → Bool → Bool
  | .bl c, b => decide (c = b)
  | _, _ => false
def rdIsB (f : Bool → Bool) : RD2 := fun x y S Q => match y with
  | .bl b => Q (.bl (f (isBlV x b))) S
  | _ => False
section
variable {K : PySem.W.Frag} {X : Cx} {W : WX}
def vBl : V → Bool → Bool
  | .bl c, b => decide (c = b)
  | _, _ => false
def rIsBA : R2 := fun x y H Q => ∃ b, y = .bl b ∧ Q (.bl (vBl x b)) H
theorem op_isBA : OpR X (compareOp .Is) rIsBA := by
  intro pins s σ H x y v u Q I rx ry h
  obtain ⟨b, rfl, q⟩ := h
  cases (show u = Value.bool b from ry)
  cases x with
  | bl a => exact op_isBl pins s σ H (.bl a) (.bl b) _ _ Q I rx (show RelV (.bl b) (.bool b) from rfl) ⟨a, b, rfl, rfl, q⟩
  | ref a => cases rx; exact wpAny_is_other rfl (by intro z; cases z) ⟨.bl false, H, I, rfl, q⟩
  | non => cases rx; exact wpAny_is_other rfl (by intro z; cases z) ⟨.bl false, H, I, rfl, q⟩
  | int i => obtain ⟨t, rfl⟩ := rx; exact wpAny_is_other rfl (by intro z; cases z) ⟨.bl false, H, I, rfl, q⟩
  | str i => obtain ⟨t, rfl⟩ := rx; exact wpAny_is_other rfl (by intro z; cases z) ⟨.bl false, H, I, rfl, q⟩
  | byt i => obtain ⟨t, rfl⟩ := rx; exact wpAny_is_other rfl (by intro z; cases z) ⟨.bl false, H, I, rfl, q⟩
  | flt i => obtain ⟨t, rfl⟩ := rx; exact wpAny_is_other rfl (by intro z; cases z) ⟨.bl false, H, I, rfl, q⟩
  | ty n => cases rx; exact wpAny_is_other rfl (by intro z; cases z) ⟨.bl false, H, I, rfl, q⟩
theorem isBl_v {H : Hp} {x : V} {d : Dv} {b : Bool} (r : Rep K H x d) : vBl x b = isBlV d b := by
  cases r <;> rfl
theorem l_isB : LR2 K rIsBA (rdIsB fun b => b) := by
  intro x y H dx dy S Qh Q rx ry hS h k
  unfold rdIsB at h
  split at h
  · exact ⟨_, ry.i_bl, by rw [isBl_v rx]; exact k.now h (.bl _) hS⟩
  · exact h.elim
/-! ### str(i), int(z), z * i -/
def rdStrI : RDC := fun ds S Q => match ds with
  | [.int i] => i.natAbs.log2 < 1920 ∧ Q (.str (toString i)) S
  | _ => False
theorem l_strI : LRC K (fun xs H Q => ∃ i, xs = [.int i] ∧ i.natAbs.log2 < 1920 ∧ Q (.str (toString i)) H) rdStrI := by
  intro vs H ds S Qh Q r hS h k
  unfold rdStrI at h
  split at h
  · obtain ⟨v, rfl, rr⟩ := one_i r
    rw [rr.i_int]
    exact ⟨_, rfl, h.1, k.now h.2 (.str _) hS⟩
  · exact h.elim
def rdIntS : RDC := fun ds S Q => match ds with
  | [.str a] => ∃ n, PySem.intText? a = some n ∧ a.length ≤ 640 ∧ Q (.int n) S
  | _ => False
theorem l_intS : LRC K (fun xs H Q => ∃ a n, xs = [.str a] ∧ PySem.intText? a = some n ∧ a.length ≤ 640 ∧ Q (.int n) H) rdIntS := by
  intro vs H ds S Qh Q r hS h k
  unfold rdIntS at h
  split at h
  · obtain ⟨v, rfl, rr⟩ := one_i r
    rw [rr.i_str]
    obtain ⟨n, h1, h2, q⟩ := h
    exact ⟨_, n, rfl, h1, h2, k.now q (.int _) hS⟩
  · exact h.elim
def repStr (z : Str) (n : Int) : Str := ⟨(List.replicate n.toNat z.cps).foldl (· ++ ·) #[]⟩
def rdMulS : RD2 := fun x y S Q => match x, y with
  | .str z, .int n => (2 ≤ n ∧ n ≤ 1000 ∧ 0 < z.length ∧ z.length ≤ 1000) ∧ Q (.str (repStr z n)) S
  | _, _ => False
/-! ### dicts written out -/
def dDict0 : DE := fun ρ S Q _ => ∀ p, S p = none → Q (.ref p) (put S p (.dK []))
theorem d_dict0 {pos : Pos} : PE X (.Dict [] [] pos) (low X.K W dDict0) := pei pe_dnewK fun σ H Q ⟨ρ, S, Qh, Xh, hσ, hS, h, k, x⟩ p hp =>
  k _ _ _ _ (h p (hS.free hp)) (Tk.new hp) (.ref p) (hS.new hp (.mdK upd_same .nil))
/-- one pair -/
def dDict1 (dk dv : DE) : DE := fun ρ S Q X => ∀ p, S p = none → dk ρ (put S p (.dK [])) (fun x S1 => dv ρ S1 (fun y S2 => S2 p = some (.dK []) ∧ match x with
  | .str z => Q (.ref p) (put S2 p (.dK [(.inr z, y)]))
  | .int z => Q (.ref p) (put S2 p (.dK [(.inl z, y)]))
  | _ => False) X) X
theorem d_dict1 {pos : Pos} {ek ev : Expr} {dk dv : DE} (hk : PE X ek (low X.K W dk)) (hv : PE X ev (low X.K W dv)) : PE X (.Dict [some ek] [ev] pos) (low X.K W (dDict1 dk dv)) :=
  pei (pe_disp (pps_cons hk hv pps_nil) rfl rfl (by simp) (by simp)) fun σ H Q ⟨ρ, S, Qh, Xh, hσ, hS, h, k, x⟩ p hp => by
    have t0 : Tk X.K H (upd H p (.dK [])) := Tk.new hp
    refine ⟨ρ, _, _, Xh, hσ.mono t0, hS.new hp (.mdK upd_same .nil), h p (hS.free hp), fun d1 S1 v1 H1 q1 t1 r1 a1 => ?_, x.mono t0⟩
    refine ⟨ρ, S1, _, Xh, hσ.mono (t0.trans t1), a1, q1, fun d2 S2 v2 H2 q2 t2 r2 a2 => ?_, x.mono (t0.trans t1)⟩
    obtain ⟨e, q2⟩ := q2
    obtain ⟨gs, e1, e2⟩ := a2 p _ e
    cases e2
    have t3 : Tk X.K H2 (upd H2 p (.dK [])) := Tk.write e1 wr_dK
    have fin : ∀ z : Key, Qh (.ref p) (put S2 p (.dK [(z, d2)])) → Q (.ref p) (upd H2 p (.dK (mergeK [] [(z, v2)]))) := fun z q => by
      have t4 : Tk X.K H2 (upd H2 p (.dK (mergeK [] [(z, v2)]))) := Tk.write e1 wr_dK
      exact k _ _ _ _ q (((t0.trans t1).trans t2).trans t4) (.ref p) (a2.write e1 wr_dK (.mdK upd_same (.cons ⟨rfl, r2.mono t4⟩ .nil)))
    cases d1 with
    | str z =>
      have e5 := (r1.mono t2).i_str
      subst e5
      exact ⟨e1, [(.inr z, v2)], rfl, by simp, fin _ q2⟩
    | int z =>
      have e5 := (r1.mono t2).i_int
      subst e5
      exact ⟨e1, [(.inl z, v2)], rfl, by simp, fin _ q2⟩
    | _ => exact q2.elim
def rMulS : R2 := fun x y H Q => ∃ z n, x = .str z ∧ y = .int n ∧ (2 ≤ n ∧ n ≤ 1000 ∧ 0 < z.length ∧ z.length ≤ 1000) ∧ Q (.str (repStr z n)) H
theorem op_mulS : OpR X (binaryOp .Mult) rMulS := by
  intro pins s σ H x y v u Q I rx ry h
  obtain ⟨z, n, rfl, rfl, ⟨h1, h2, h3, h4⟩, q⟩ := h
  obtain ⟨t, rfl⟩ := rx
  obtain ⟨t2, rfl⟩ := ry
  have c : (n == 1 || z.length == 0) = false := by
    rw [Bool.or_eq_false_iff]
    exact ⟨by simp; omega, by simp; omega⟩
  have hlen : z.length * n.toNat ≤ 1000 * 1000 := Nat.mul_le_mul h4 (by omega)
  refine P.mul_str ?_ (fun _ _ => ?_) (fun _ _ => ?_) ?_
  · rw [decide_eq_false (by omega), decide_eq_false (by omega)]; rfl
  · have : (1000 : Int) ≤ (2 ^ 63 - 1 : Int) / n := Int.le_ediv_of_mul_le (by omega) (by omega)
    omega
  · unfold Builtin.Str.tooLong
    rw [decide_eq_false]
    rw [sizeLine_eq]
    omega
  · rw [if_neg (by omega), if_neg (by rw [c]; decide)]
    have hl : ∀ (k : Nat) (acc : Array Nat), ((List.replicate k z.cps).foldl (· ++ ·) acc).size = acc.size + k * z.cps.size := by
      intro k
      induction k with
      | zero => intro acc; simp
      | succ k ih => intro acc; rw [List.replicate_succ, List.foldl_cons, ih]; simp [Nat.add_mul]; omega
    refine ⟨?_, .str (repStr z n), H, I.tok _, ⟨_, rfl⟩, q⟩
    show (((List.replicate n.toNat z.cps).foldl (· ++ ·) #[]).size : Nat) ≤ sizeLine
    rw [hl, sizeLine_eq]
    have : n.toNat * z.cps.size ≤ 1000 * 1000 := Nat.mul_le_mul (by omega) h4
    simp
    omega
theorem l_mulS : LR2 K rMulS rdMulS := by
  intro x y H dx dy S Qh Q rx ry hS h k
  unfold rdMulS at h
  split at h
  · exact ⟨_, _, rx.i_str, ry.i_int, h.1, k.now h.2 (.str _) hS⟩
  · exact h.elim
end
end VD

namespace VD
open PySem PySem.Spec PyProof.Rows L2
theorem ve_base : PySem.HandSPX.refsVE [.type "ValueError", .type "Exception", .type "BaseException", .type "object"] = true := by decide +kernel
theorem ve_step {a : Addr} {r : List Value} (h : PySem.HandSPX.refsVE r = true) : PySem.HandSPX.refsVE (.ref a :: r) = true := h
/-! ### own exceptions with one field -/
def spInit (C : Addr) (f : Str) : Sp := fun vs H Q _ => ∃ a v, vs = [.ref a, v] ∧ H a = some (exo a C none) ∧ ∀ dx, H dx = none → dx ≠ a → Q .non (upd (upd H dx (exd dx [(f, v)])) a (exo a C (some dx)))
theorem okInit {P : Program} {w : World} {K : PySem.W.Frag} {mg : Str → Option Value} {base : Heap} {x qual : Str} {st : Stmt} {g C : Addr} {fd : FuncData} {p1 p2 f : Str} (F : Fun K x qual st g fd) (Sc : FnScope [p1, p2] [p1, p2] (defScope st)) (T : OexC K C) (hno : PySem.W.findIn K (.ref C) f = some none)
    (hb : ∀ (cdv : Value) (A : Around) (outer : List Env) (s : Shared) (H : Hp) (E : XK), Room 0 (A.deeper (envOfC qual (defScope st) s.heap.objs.size g cdv)) →
      PSs (cxOf (L2.CX P w) P w K mg base [p1, p2] qual (defScope st) g cdv A outer s H E) (defBody st) (tOst K f (tVar 0) (tVar 1))) : FnOk P w K mg base (L2.CX P w) 1 g fd [p1, p2] (spInit C f) := by
  refine Fun.okX F Sc (fun vs H Q E ⟨a, v, e, _⟩ => by rw [e]; rfl) fun cdv A outer s H vs Q E hr' ⟨a, v, e, ea, q⟩ => ?_
  subst e
  exact ⟨_, hb cdv A outer s H E hr', v, rfl, .ref a, rfl, a, C, rfl, T, hno, .inl ⟨ea, fun dx n ne => q dx n ne⟩⟩
def dRaiseF (cls : Value) (f : Str) (das : DA) : DS := fun D ρ S => das ρ S (fun ds S1 => match ds with
  | [d] => ∀ dx, S1 dx = none → D.ex cls (some dx) ρ (put S1 dx (.xd [(f, d)]))
  | _ => False) (D.xd ρ)
section
variable {X : Cx} {W : WX}
theorem s_raise1 {x f : Str} {C fI : Addr} {k : Nat} {fd : FuncData} {ps : List Str} {e : Expr} {das : DA} {p pos' pos : Pos} (hc : X.calm = true) (tk : Takes X W) (T : OexC X.K C) (iC : PySem.W.findIn X.K (.ref C) "__init__" = some (some (.ref fI)))
    (tI : PySem.W.typeIn X.K (.ref fI) = some (.type "function")) (F1 : FnOk X.prog X.w X.K X.mg X.base (L2.CX X.prog X.w) k fI fd ps (spInit C f)) (hr : RoomG (k + 1) X.A) (hb : Binds X.K fd ps []) (gC : X.mg x = some (.ref C)) (ha : PA X [e] (lowA X.K W das)) (hg : Gl X x := by rfl)
    (hdb : (x == ("__debug__" : Str)) = false := by decide) (he : starEach [e] X.env = (false, eval e X.env) :: starEach [] X.env := by rfl) (hpl : (backTo pos' (starEach [] X.env)).any (·.1) = false := by rfl) :
    PS X (.Raise (some (.Call (.Name x p) [e] [] pos')) none pos) (lowS X.K W (dRaiseF (.ref C) f das)) :=
  psi (ps_raise hc tk (pmk_oex (dvs := []) (ds := []) T iC tI F1 hr.r hb .nil (passes_call tk fun _ _ _ _ h => h.elim) hg gC ha hdb he hpl)) fun D σ H ⟨ρ, S, Dh, hσ, hS, h, k⟩ => by
    refine ⟨ρ, S, _, _, hσ, hS, h, fun ds S1 vs H1 q t r a => ?_, k.lx hσ⟩
    match ds, q, r with
    | [d], q, r =>
      obtain ⟨v, rfl, rv⟩ := one_i r
      refine ⟨by simp, fun e1 n1 => ⟨e1, v, rfl, upd_same, fun dx nd ne => ?_⟩⟩
      have nd1 : H1 dx = none := by rw [upd_ne ne] at nd; exact nd
      refine ⟨rfl, dx, [(f, v)], upd_same, ?_, nd1, ?_⟩
      · rw [upd_ne ne]; exact upd_same
      · have eH : upd (del (upd (upd (upd H1 e1 (exo e1 C none)) dx (exd dx [(f, v)])) e1 (exo e1 C (some dx))) e1) dx (.xd [(f, v)]) = upd H1 dx (.xd [(f, v)]) := by
          funext b
          by_cases h1 : b = dx
          · subst h1; rw [upd_same, upd_same]
          · rw [upd_ne h1, upd_ne h1]
            by_cases h2 : b = e1
            · subst h2; rw [del_same, n1]
            · rw [del_ne h2, upd_ne h2, upd_ne h1, upd_ne h2]
        rw [eH]
        have t2 : Tk X.K H1 (upd H1 dx (.xd [(f, v)])) := Tk.new nd1
        exact k.ex _ _ ρ _ σ _ (q dx (a.free nd1)) (t.trans t2) (hσ.mono (t.trans t2)) (a.new nd1 (.mxd upd_same (.cons ⟨rfl, rv.mono t2⟩ .nil)))
    | [], q, _ => exact q.elim
    | _ :: _ :: _, q, _ => exact q.elim
/-- error.f in a suite -/
def dXf (a : Addr) (cls : Value) (da : Option Addr) (C : Addr) (f : Str) (de : DE) : DE := fun ρ S Q X => de ρ S (fun x S1 => x = .ref a ∧ cls = .ref C ∧ ∃ dd fs v, da = some dd ∧ S1 dd = some (.xd fs) ∧ fs.lookup f = some v ∧ Q v S1) X
theorem lookF {K : PySem.W.Frag} {H : Hp} {f : Str} {d : Dv} : ∀ {gs : List (Str × V)} {fs : List (Str × Dv)}, RepF K H gs fs → fs.lookup f = some d → ∃ v, gs.lookup f = some v ∧ Rep K H v d
  | _, _, .nil, e => by cases e
  | (g, v) :: gs, (g', d') :: fs, .cons ⟨e1, r⟩ t, e => by
    dsimp only at e1 r
    subst e1
    rw [List.lookup_cons] at e ⊢
    cases h : f == g with
    | true =>
      rw [h] at e
      cases e
      exact ⟨v, rfl, r⟩
    | false =>
      rw [h] at e
      exact lookF t e
theorem d_xf {a C : Addr} {oe : Obj} {cls : Value} {da : Option Addr} {pn : List (Addr × Obj)} {e : Expr} {de : DE} {pos : Pos} {n : Str} (T : XfC X.K C) (hno : PySem.W.findIn X.K (.ref C) n = some none)
    (hz : Zc cls da oe) (hf : ∃ vs, oe.data = .fields vs) (he : PE (X.suite a ((a, oe) :: pn)) e (low X.K W de)) (hb : attributeBase e n X.env (eval e X.env) = eval e X.env := by rfl) :
    PE (X.suite a ((a, oe) :: pn)) (.Attribute e n pos) (low X.K W (dXf a cls da C n de)) :=
  pei (pe_xf T hno hz hf he hb) fun σ H Q ⟨ρ, S, Qh, Xh, hσ, hS, h, k, x⟩ => ⟨ρ, S, _, Xh, hσ, hS, h, fun d1 S1 v1 H1 q1 t1 r1 a1 => by
    obtain ⟨e1, e2, dd, fs, v, e3, e4, e5, q⟩ := q1
    subst e1
    obtain ⟨gs, g1, g2⟩ := a1 dd _ e4
    obtain ⟨u, u1, u2⟩ := lookF g2 e5
    exact ⟨r1.i_ref, e2, dd, gs, u, e3, g1, u1, k v S1 u H1 q t1 u2 a1⟩, x⟩
end
end VD

namespace VD
open PySem PySem.Spec PyProof.Rows L2
/-! ### try, the first clause with a name and taking every exception of the body; what other clauses follow is all one -/
def offSlot (i : Nat) (D : Ends) : Ends := { nx := fun σ H => D.nx (σ.set i none) H, rt := D.rt, bk := fun σ H => D.bk (σ.set i none) H, ct := fun σ H => D.ct (σ.set i none) H }
def wTake (K : PySem.W.Frag) (c : Value) (i : Nat) (ts : Addr → Value → Option Addr → TS) (D : Ends) : WX := fun cls d σ H =>
  PySem.W.exmOne K cls c = some true ∧ ∀ a, H a = none → ts a cls d (offSlot i D) (σ.set i (some (.ref a))) H
section
variable {X : Cx} {x n : Str} {c : Value} {i : Nat} {bd su : List Stmt} {s₁ : Stmt} {np p1 p2 : Pos} {others : List ExceptHandler} {tb : WX → TS} {ts : Addr → Value → Option Addr → TS}
/-- an exception's object is no frame -/
theorem no_frame {B g : Heap} {a : Addr} {o : Obj} {vs : Array Value} (ff : g.FunFrames B (X.env :: X.outer)) (e : g.get? a = some o) (d : o.data = .fields vs) : a ∉ frs (X.env :: X.outer) := fun hm => by
  obtain ⟨_, o2, e2, nf⟩ := ff.mem hm
  cases e.symm.trans e2
  exact nf _ d
theorem ps_take (hs : X.stack = X.env :: X.outer) (hf : X.env.frame = some X.env.locals) (hN : X.N.Nodup) (hi : X.N[i]? = some n) (hln : X.env.kindOf n = some .local) (hc : Names X x c)
    (hb : ∀ (W : WX) (pn : List (Addr × Obj)) (xe : Value → Shared → Prop), Takes (X.tr pn xe) W → PSs (X.tr pn xe) bd (tb W))
    (hsu : ∀ (a : Addr) (oe : Obj) (cls : Value) (d : Option Addr) (pn : List (Addr × Obj)), Zc cls d oe → (∃ vs, oe.data = .fields vs) → PSs (X.suite a ((a, oe) :: pn)) (s₁ :: su) (ts a cls d)) :
    PS X (.Try bd (.ExceptHandler (some (.Name x np)) (some n) (s₁ :: su) p2 :: others) [] [] p1) (fun D σ H => tb (wTake X.K c i ts D) D σ H) := by
  refine ⟨fun pins s σ H D I start => wpAny_Try_except ?_⟩
  have ok := I.ok
  have frames : X.A.frames = some (X.env :: X.outer) := by rw [ok.frames, hs]
  let rest := (.ExceptHandler (some (.Name x np)) (some n) (s₁ :: su) p2 : ExceptHandler) :: others
  let go : Value → Shared → Prop := fun e sa => wpAny (model X.prog X.w) X.A (noteFrame e X.env)
    (fun _ sb => wpAny (model X.prog X.w) X.A (setFlight e none) (fun _ sc => wpAny (model X.prog X.w) X.A (handleBy e X.env rest) (SP X pins D) X.xe sc) X.xe sb) X.xe sa
  have caught : Takes (X.tr (X.pn ++ pins) go) (wTake X.K c i ts D) := by
    intro u sz q
    obtain ⟨a, B, sI, pins2, σ2, H2, cls, d, rfl, J0, nb, up, sky, na, os, ag, match_, wish⟩ := q
    have J : Inv X pins σ2 H2 sI := J0.ofTry ok
    have sky2 : Sky B (X.env :: X.outer) a (Zc cls d) X.env.locals sz.heap := by rw [← hs]; exact sky
    show wpAny (model X.prog X.w) X.A (noteFrame (.ref a) X.env) _ _ _
    refine Sky.land Zc.steady frames hf sky2 fun g fly up2 => ?_
    have J1 : Inv X pins σ2 H2 { sz with heap := g } := J.landed nb fly.1 (up.trans up2) os ag
    obtain ⟨o1, v1, there1, z1, dat1⟩ := fly.there
    have far := no_frame fly.2.2.1 there1 dat1
    have notL : a ≠ X.env.locals := fun z => far (List.mem_filterMap.mpr ⟨X.env, List.mem_cons_self, by rw [hf, z]⟩)
    have notF : a ∉ X.fs := fun hm => by
      obtain ⟨e, he, w⟩ := List.mem_filterMap.mp hm
      exact far (List.mem_filterMap.mpr ⟨e, List.mem_cons_of_mem _ he, w⟩)
    have S1 := J1.suite there1 dat1 na notL notF
    refine wpAny_handleBy_cons (codeAny_handlers_test ?_) (by intro w; cases w)
    have typ : PySem.W.Looks (model X.prog X.w) g (typeOf (.ref a)) cls := fun A Q E sq keep w => wpAny_typeOf_ref (keep _ _ there1) (by rw [z1.1]; exact w)
    have looks := PySem.W.exm_one (M := model X.prog X.w) (J1.kIn) typ match_
    have named : ∀ {Q : Value → Shared → Prop} {E : Value → Shared → Prop}, Q c { sz with heap := g } → wpAny (model X.prog X.w) (X.A.mark (some (.ref a))) (eval (.Name x np) X.env) Q E { sz with heap := g } := by
      intro Q E w
      obtain ⟨hg, hd, hm | ⟨hm, hv, hn⟩⟩ := hc
      · exact ld_glob (X := X.suite a ((a, o1) :: (X.pn ++ pins))) S1 hg hm w hd
      · exact ld_blt (X := X.suite a ((a, o1) :: (X.pn ++ pins))) S1 hg hm hv w hn hd
    refine named (looks.here (codeAny_handlers_suite_as (HandSPX.lands_againZ fly fun g2 fly2 up3 => ?_)))
    have J2 : Inv X pins σ2 H2 { sz with heap := g2 } := J.landed nb fly2.1 ((up.trans up2).trans up3) os ag
    obtain ⟨o2, v2, there2, z2, dat2⟩ := fly2.there
    have S2 := J2.suite there2 dat2 na notL notF
    refine store_ok (X := X.suite a ((a, o2) :: (X.pn ++ pins))) (v := .ref a) S2 hN hi (.inl hln) rfl (fun s5 S5 => ?_) (.inr hln)
    refine wpAny_mono ((hsu a o2 cls d (X.pn ++ pins) z2 ⟨_, dat2⟩).run [] s5 _ H2 _ S5 (wish a na)) (fun f s6 ends => ?_) (fun _ _ z => z.elim)
    have drop : ∀ {σ6 : L2.St} {H6 : Hp} {Q : Shared → Prop}, Inv (X.suite a ((a, o2) :: (X.pn ++ pins))) [] σ6 H6 s6 → (∀ s7, Inv X pins (σ6.set i none) H6 s7 → Q s7) →
        wpAny (model X.prog X.w) X.A (do bindName X.env n .none; unbindBehindTheSuite X.env n p2) (fun _ s7 => Q s7) X.xe s6 := fun S6 w => gone_ok (S6.unsuite ok) hN hi hln w
    cases f with
    | ret u => obtain ⟨v6, σ6, H6, S6, r6, w6⟩ := ends; exact drop S6 fun s7 J7 => ⟨_, _, _, J7, r6, w6⟩
    | next => obtain ⟨σ6, H6, S6, w6⟩ := ends; exact drop S6 fun s7 J7 => ⟨_, _, J7, w6⟩
    | brk => obtain ⟨σ6, H6, S6, w6⟩ := ends; exact drop S6 fun s7 J7 => ⟨_, _, J7, w6⟩
    | cont => obtain ⟨σ6, H6, S6, w6⟩ := ends; exact drop S6 fun s7 J7 => ⟨_, _, J7, w6⟩
  refine wpAny_mono ((hb _ _ go caught).run [] s σ H D (I.toTry _) start) (fun f sf ends => ?_) (fun e se he => he)
  cases f with
  | ret u => obtain ⟨v, σ3, H3, J3, r, w⟩ := ends; exact ⟨v, σ3, H3, J3.ofTry ok, r, w⟩
  | next => obtain ⟨σ3, H3, J3, w⟩ := ends; exact wpAny_execs_nil ⟨σ3, H3, J3.ofTry ok, w⟩
  | brk => obtain ⟨σ3, H3, J3, w⟩ := ends; exact ⟨σ3, H3, J3.ofTry ok, w⟩
  | cont => obtain ⟨σ3, H3, J3, w⟩ := ends; exact ⟨σ3, H3, J3.ofTry ok, w⟩
end
/-- over plain data -/
def offD (i : Nat) (D : DEnds) : DEnds := { nx := fun ρ S => D.nx (ρ.set i none) S, rt := D.rt, bk := fun ρ S => D.bk (ρ.set i none) S, ct := fun ρ S => D.ct (ρ.set i none) S }
def exTake (i : Nat) (tab : List (Value × Bool)) (s : Addr → Value → Option Addr → DS) (D : DEnds) (cls : Value) (da : Option Addr) (ρ : Rho) (S : Sto) : Prop := (cls, true) ∈ tab ∧ ∀ a, S a = none → s a cls da (offD i D) (ρ.set i (some (.ref a))) S
def dTake (b : DS) (i : Nat) (tab : List (Value × Bool)) (s : Addr → Value → Option Addr → DS) : DS := fun D ρ S => b { D with ex := exTake i tab s D } ρ S
theorem s_take (i : Nat) {X : Cx} {W : WX} {x n : Str} {c : Value} {bd su : List Stmt} {s₁ : Stmt} {np p1 p2 : Pos} {others : List ExceptHandler} {b : DS} {tab : List (Value × Bool)} {s : Addr → Value → Option Addr → DS} (hN : X.N.Nodup) (hc : Names X x c) (ht : ∀ p ∈ tab, PySem.W.exmOne X.K p.1 c = some p.2)
    (hb : ∀ (W' : WX) (pn : List (Addr × Obj)) (xe : Value → Shared → Prop), Takes (X.tr pn xe) W' → PSs (X.tr pn xe) bd (lowS X.K W' b))
    (hsu : ∀ (a : Addr) (oe : Obj) (cls : Value) (d : Option Addr) (pn : List (Addr × Obj)), Zc cls d oe → (∃ vs, oe.data = .fields vs) → PSs (X.suite a ((a, oe) :: pn)) (s₁ :: su) (lowS X.K W0 (s a cls d)))
    (hi : X.N[i]? = some n := by rfl) (hln : X.env.kindOf n = some .local := by rfl) (hs : X.stack = X.env :: X.outer := by rfl) (hf : X.env.frame = some X.env.locals := by rfl) :
    PS X (.Try bd (.ExceptHandler (some (.Name x np)) (some n) (s₁ :: su) p2 :: others) [] [] p1) (lowS X.K W (dTake b i tab s)) :=
  psi (ps_take (tb := fun W' => lowS X.K W' b) (ts := fun a cls d => lowS X.K W0 (s a cls d)) hs hf hN hi hln hc hb hsu) fun D σ H ⟨ρ, S, Dh, hσ, hS, h, k⟩ =>
    ⟨ρ, S, { Dh with ex := exTake i tab s Dh }, hσ, hS, h, ⟨k.nx, k.rt, k.bk, k.ct, fun cls da ρ' S' σ' H' ⟨q1, q2⟩ t r a => ⟨ht _ q1, fun e ne => ⟨_, S', _, r.set i (.ref e), a, q2 e (a.free ne),
      ⟨fun ρ2 S2 σ2 H2 q t2 r2 a2 => k.nx _ S2 _ H2 q (t.trans t2) (r2.setN i) a2, k.rt.mono t, fun ρ2 S2 σ2 H2 q t2 r2 a2 => k.bk _ S2 _ H2 q (t.trans t2) (r2.setN i) a2, fun ρ2 S2 σ2 H2 q t2 r2 a2 => k.ct _ S2 _ H2 q (t.trans t2) (r2.setN i) a2, fun _ _ _ _ _ _ q => q.elim⟩⟩⟩⟩⟩
end VD

namespace VD
open PySem PySem.Spec PyProof.Rows L2
/-! ### xs.extend(ys), ys a tuple or a list -/
theorem list_extendS (l : Addr) (its : Array Value) (n : Nat) (b : Addr) (more : Array Value) (n2 : Nat) (dd : Option Addr) (sl : Array (Option Value)) (h0 : ¬(!its.isEmpty && Builtin.List.listTooLong (its.size + more.size)) = true) (h1 : its.size ≤ sizeLine) (h2 : its.size + more.size ≤ sizeLine + 1) :
    Meets (Builtin.«list.extend» ⟨[.ref l, .ref b], []⟩) (fun _ R s => s.heap.get? l = some { cls := .type "list", dict := none, data := .seq its n, slots := #[] } ∧ s.heap.get? b = some { cls := .type "tuple", dict := dd, data := .seq more n2, slots := sl } ∧
      R (.ok (.ret Value.none)) { s with heap := s.heap.update l (Obj.mapSeq fun x => x ++ more), toks := s.toks }) :=
  .of_wp fun prog w A R s h => by
    obtain ⟨hp, g, d, tk, os⟩ := s
    obtain ⟨hl, hb, h⟩ := h
    have f1 := AutoSeq1.idx_int
    have f2 := AutoSeq1.sub_tuple_tuple
    have f3 := AutoSeq1.sub_list_list
    have f4 := AutoSeq1.sub_tuple_list
    have f5 := AutoSeq1.sub_list_tuple
    have hz : (its ++ more).size ≤ sizeLine + 1 := by rw [Array.size_append]; exact h2
    wp_walk using (wpAny_updateSeq hl rfl (hz := h1) (_hz' := hz)), wpAny_loadPart' hl, wpAny_loadPart' hb
    exact ⟨_, rfl, h⟩
def rExtT (K : PySem.W.Frag) : V → List V → Hp → VK → Prop := fun x vs H Q => ∃ l b xs zs, x = .ref l ∧ vs = [.ref b] ∧ H l = some (.lst xs) ∧ SqT K H b zs ∧ xs.length + zs.length ≤ sizeLine ∧ Q .non (upd H l (.lst (xs ++ zs)))
section
variable {X : Cx} {K : PySem.W.Frag}
theorem mt_extT : MtR X "list.extend" (rExtT X.K) := by
  intro pins s σ H x vs v us Q I rx rv h
  obtain ⟨l, b, xs, zs, rfl, rfl, hH, hB, hz, q⟩ := h
  cases rx
  obtain ⟨u, rfl, ru⟩ := rv.one
  cases ru
  obtain ⟨z, its, n, r, hl, e⟩ := I.lstM hH
  obtain ⟨more, r2, ⟨⟨cls, dd, data, sl⟩, e2, hc, n2, hd⟩, _⟩ := I.tuple hB
  simp only at hc hd
  subst hc hd
  have hl2 := r2.length
  have few : its.toArray.size + more.toArray.size ≤ sizeLine := by rw [List.size_toArray, List.size_toArray]; omega
  have short : ¬ (!its.toArray.isEmpty && Builtin.List.listTooLong (its.toArray.size + more.toArray.size)) = true := by
    rw [notLongL few, Bool.and_false]
    exact Bool.false_ne_true
  refine call_meets F.slot_list_extend ⟨_, e, rfl⟩ F.entry_list_extend (F.args_list_extend_2 _ _) (list_extendS l its.toArray n b more.toArray n2 dd sl short (by rw [List.size_toArray]; omega) (by omega)) ⟨e, e2, ?_⟩
  refine ⟨.non, _, I.lset (its' := its ++ more) hH e (by simp) (r.append r2) ?_, rfl, q⟩
  rw [List.length_append]
  exact hz
def rdExtend : RDM := fun x ds S Q => match x, ds with
  | .ref a, [.tup ys] => match S a with
    | some (.lst xs) => xs.length + ys.length ≤ sizeLine ∧ Q .non (put S a (.lst (xs ++ ys)))
    | _ => False
  | .ref a, [.ref b] => match S a, S b with
    | some (.lst xs), some (.lst ys) => xs.length + ys.length ≤ sizeLine ∧ Q .non (put S a (.lst (xs ++ ys)))
    | _, _ => False
  | _, _ => False
theorem mt_extA : MtR X "list.extend" (fun x vs H Q => rExtT X.K x vs H Q ∨ rExtend x vs H Q) := MtR.or mt_extT mt_extend
theorem l_extend : LRM K (fun x vs H Q => rExtT K x vs H Q ∨ rExtend x vs H Q) rdExtend := by
  intro x vs H d ds S Qh Q rx r hS h k
  unfold rdExtend at h
  split at h
  · rename_i a ys
    obtain ⟨v, rfl, r1⟩ := one_i r
    obtain ⟨b, zs, rfl, hb, lb⟩ := r1.i_tup
    split at h
    · rename_i xs ea
      obtain ⟨us, h1, l⟩ := hS _ _ ea
      have tw : Tk K H (upd H a (.lst (us ++ zs))) := Tk.write h1 wr_lst
      exact .inl ⟨a, b, us, zs, rx.i_ref, rfl, h1, hb, by rw [l.length, lb.length]; exact h.1, k _ _ _ _ h.2 tw .non (hS.write h1 wr_lst (.mlst upd_same ((l.mono tw).append (lb.mono tw))))⟩
    · exact h.elim
  · rename_i a b
    obtain ⟨v, rfl, r1⟩ := one_i r
    split at h
    · rename_i xs ys ea eb
      obtain ⟨us, h1, l⟩ := hS _ _ ea
      obtain ⟨zs, h2, lb⟩ := hS _ _ eb
      have tw : Tk K H (upd H a (.lst (us ++ zs))) := Tk.write h1 wr_lst
      rw [r1.i_ref]
      exact .inr ⟨a, b, us, zs, rx.i_ref, rfl, h1, h2, by rw [l.length, lb.length]; exact h.1, k _ _ _ _ h.2 tw .non (hS.write h1 wr_lst (.mlst upd_same ((l.mono tw).append (lb.mono tw))))⟩
    · exact h.elim
  · exact h.elim
end
end VD

namespace VD
open PySem PySem.Spec PyProof.Rows L2
/-! ### lists by value -/
def FZ (v : V) (H1 : Hp) (Q : VK) : Prop := Q v H1 ∨ ∃ a u, v = .ref a ∧ H1 a = some u ∧ canFrz u = true ∧ ∀ o, Q v (upd H1 a (.frz o u))
section
variable {K : PySem.W.Frag} {H H1 : Hp} {S : Sto} {Qh : QD} {Q : VK} {p : Addr}
theorem tk_frz {u : HO} {o : Obj} (hp : H p = none) : Tk K H (upd (upd H p u) p (.frz o u)) := by
  rw [upd_upd]; exact Tk.new hp
/-- a new list that is frozen at once -/
theorem Lk.frzL (k : Lk K H Qh Q) {vs : List V} {ds : List Dv} (q : Qh (.rol ds) S) (hp : H p = none) (r : RepL K H vs ds) (a : Abs K H S) : FZ (.ref p) (upd H p (.lst vs)) Q := by
  refine .inr ⟨p, _, rfl, upd_same, rfl, fun o => ?_⟩
  have t : Tk K H (upd (upd H p (.lst vs)) p (.frz o (.lst vs))) := tk_frz hp
  refine k _ S _ _ q t (.rol (.inl ⟨o, upd_same⟩) (r.mono t)) fun b m hb => ?_
  refine (a b m hb).mono t fun z hz => ?_
  rw [upd_upd, upd_ne (ne_of_none hz hp)]
  exact hz
end
section
variable {X : Cx} {W : WX} {a b c e : Expr} {da db dc de : DE} {pos p : Pos} {es : List Expr} {das : DA} {x : Str} {id T : String}
theorem pe_fz {x : Expr} {t : TE} (h : PE X x t) : PE X x (fun σ H Q => t σ H fun v H1 => FZ v H1 Q) := pe_frz h
def dLstV (das : DA) : DE := fun ρ S Q X => das ρ S (fun ds S1 => ds.length ≤ sizeLine ∧ Q (.rol ds) S1) X
theorem d_lstV (h : PA X es (lowA X.K W das)) : PE X (.List es pos) (low X.K W (dLstV das)) := pei (pe_fz (pe_lst h)) fun σ H Q ⟨ρ, S, Qh, Xh, hσ, hS, h, k, x⟩ =>
  ⟨ρ, S, _, Xh, hσ, hS, h, fun ds S1 vs H1 q1 t1 r1 a1 => ⟨by rw [r1.length]; exact q1.1, fun p hp => (k.mono t1).frzL q1.2 hp r1 a1⟩, x⟩
/-- a two-place operator whose new list is frozen -/
def LR2V (K : PySem.W.Frag) (r : R2) (rd : RD2) : Prop := ∀ x y H dx dy S Qh Q, Rep K H x dx → Rep K H y dy → Abs K H S → rd dx dy S Qh → Lk K H Qh Q → r x y H fun v H1 => FZ v H1 Q
theorem d_opV {op : Operator} {r : R2} {rd : RD2} (ho : OpR X (binaryOp op) r) (hl : LR2V X.K r rd) (ha : PE X a (low X.K W da)) (hb : PE X b (low X.K W db)) : PE X (.BinOp a op b pos) (low X.K W (dOp rd da db)) := pei (pe_fz (pe_op ho ha hb)) fun σ H Q ⟨ρ, S, Qh, Xh, hσ, hS, h, k, x⟩ =>
  ⟨ρ, S, _, Xh, hσ, hS, h, fun d1 S1 v1 H1 q1 t1 r1 a1 => ⟨ρ, S1, _, Xh, hσ.mono t1, a1, q1, fun d2 S2 v2 H2 q2 t2 r2 a2 => hl v1 v2 H2 d1 d2 S2 Qh Q (r1.mono t2) r2 a2 q2 (k.mono (t1.trans t2)), x.mono t1⟩, x⟩
def rdAddV : RD2 := fun x y S Q => match x, y with
  | .int i, .int j => Q (.int (i + j)) S
  | .tup xs, .tup ys => xs.length + ys.length ≤ sizeLine ∧ Q (.tup (xs ++ ys)) S
  | .str a, .str b => a.length + b.length ≤ sizeLine ∧ Q (.str (a ++ b)) S
  | x, y => lstOf x S fun xs => lstOf y S fun ys => xs.length + ys.length ≤ sizeLine ∧ Q (.rol (xs ++ ys)) S
theorem Lk.fz {K : PySem.W.Frag} {H : Hp} {Qh : QD} {Q : VK} (k : Lk K H Qh Q) : Lk K H Qh fun v H1 => FZ v H1 Q := fun d S v H' q t r a => .inl (k d S v H' q t r a)
theorem l_addV {K : PySem.W.Frag} : LR2V K (rAddA K) rdAddV := by
  intro x y H dx dy S Qh Q rx ry hS h k
  have go : rdAdd dx dy S Qh → rAddA K x y H fun v H1 => FZ v H1 Q := fun h => l_add x y H dx dy S Qh _ rx ry hS h k.fz
  unfold rdAddV at h
  split at h
  · exact go h
  · exact go h
  · exact go h
  · obtain ⟨a, us, xs, rfl, l1, r1, h⟩ := lstOf_c rx hS h
    obtain ⟨b, vs, ys, rfl, l2, r2, h⟩ := lstOf_c ry hS h
    exact .inr (.inr (.inr ⟨a, b, us, vs, rfl, rfl, l1, l2, by rw [r1.length, r2.length]; exact h.1, fun p hp => k.frzL h.2 hp (r1.append r2) hS⟩))
/-- slices by value -/
def rdSlV (x : Dv) (lo hi : Option Int) (S : Sto) (Q : QD) : Prop := match x with
  | .tup xs => Q (.tup (cutD xs lo hi)) S
  | .str z => z.length ≤ sizeLine ∧ Q (.str (cutS z lo hi)) S
  | x => lstOf x S fun xs => Q (.rol (cutD xs lo hi)) S
def dSlV (de : DE) (dl dh : DO) : DE := fun ρ S Q X => de ρ S (fun d S1 => dl ρ S1 (fun lo S2 => dh ρ S2 (fun hi S3 => rdSlV d lo hi S3 Q) X) X) X
theorem l_slV {K : PySem.W.Frag} {x : V} {d : Dv} {lo hi : Option Int} {H : Hp} {S : Sto} {Qh : QD} {Q : VK} (rx : Rep K H x d) (hS : Abs K H S) (h : rdSlV d lo hi S Qh) (k : Lk K H Qh Q) : rSlAll K x lo hi H fun v H1 => FZ v H1 Q := by
  unfold rdSlV at h
  split at h
  · exact l_sl rx hS (by unfold rdSl; exact h) k.fz
  · exact l_sl rx hS (by unfold rdSl; exact h) k.fz
  · obtain ⟨a, us, xs, rfl, l1, r1, q⟩ := lstOf_c rx hS h
    exact .inr (.inl ⟨a, us, rfl, l1.sq, fun p hp => k.frzL q hp (cut_rep r1 lo hi) hS⟩)
theorem d_slV {lo hi : Option Expr} {dl dh : DO} {p2 : Pos} (he : PE X e (low X.K W da)) (hl : PO X lo (lowO X.K W dl)) (hu : PO X hi (lowO X.K W dh)) : PE X (.Subscript e (.Slice lo hi none p2) pos) (low X.K W (dSlV da dl dh)) := pei (pe_fz (pe_slice sl_all he hl hu)) fun σ H Q ⟨ρ, S, Qh, Xh, hσ, hS, h, k, x⟩ =>
  ⟨ρ, S, _, Xh, hσ, hS, h, fun d1 S1 v1 H1 q1 t1 r1 a1 => ⟨ρ, S1, _, Xh, hσ.mono t1, a1, q1, fun lo S2 H2 q2 t2 a2 => ⟨ρ, S2, _, Xh, hσ.mono (t1.trans t2), a2, q2, fun hi S3 H3 q3 t3 a3 =>
    l_slV (r1.mono (t2.trans t3)) a3 q3 (k.mono ((t1.trans t2).trans t3)), x.mono (t1.trans t2)⟩, x.mono t1⟩, x⟩
/-- built-ins whose new list is frozen -/
def LRCV (K : PySem.W.Frag) (r : List V → Hp → VK → Prop) (rd : RDC) : Prop := ∀ vs H ds S Qh Q, RepL K H vs ds → Abs K H S → rd ds S Qh → Lk K H Qh Q → r vs H fun v H1 => FZ v H1 Q
theorem d_callBV {r : List V → Hp → VK → Prop} {rd : RDC} (hc : CallR X (.builtin id) r) (hl : LRCV X.K r rd) (hm : X.mg x = none) (hv : bootBuiltins x = some (.builtin id)) (ha : PA X (e :: es) (lowA X.K W das)) (hg : Gl X x := by rfl) (hn : x ≠ "__name__" := by decide) (hdb : (x == ("__debug__" : Str)) = false := by decide)
    (he : starEach (e :: es) X.env = (false, eval e X.env) :: starEach es X.env := by rfl) (hpl : (backTo pos (starEach es X.env)).any (·.1) = false := by rfl) : PE X (.Call (.Name x p) (e :: es) [] pos) (low X.K W (dCB rd das)) := pei (pe_fz (pe_callB hc hg hm hv ha hn hdb he hpl)) fun σ H Q ⟨ρ, S, Qh, Xh, hσ, hS, h, k, x⟩ =>
  ⟨ρ, S, _, Xh, hσ, hS, h, fun ds S1 vs H1 q1 t1 r1 a1 => hl vs H1 ds S1 Qh Q r1 a1 q1 (k.mono t1), x⟩
theorem d_callTyV {r : List V → Hp → VK → Prop} {rd : RDC} (hc : CallR X (.type T) r) (hl : LRCV X.K r rd) (hm : X.mg x = none) (hv : bootBuiltins x = some (.type T)) (ha : PA X (e :: es) (lowA X.K W das)) (hg : Gl X x := by rfl) (hn : x ≠ "__name__" := by decide) (hdb : (x == ("__debug__" : Str)) = false := by decide)
    (he : starEach (e :: es) X.env = (false, eval e X.env) :: starEach es X.env := by rfl) (hpl : (backTo pos (starEach es X.env)).any (·.1) = false := by rfl) : PE X (.Call (.Name x p) (e :: es) [] pos) (low X.K W (dCB rd das)) := pei (pe_fz (pe_callTy hc hg hm hv ha hn hdb he hpl)) fun σ H Q ⟨ρ, S, Qh, Xh, hσ, hS, h, k, x⟩ =>
  ⟨ρ, S, _, Xh, hσ, hS, h, fun ds S1 vs H1 q1 t1 r1 a1 => hl vs H1 ds S1 Qh Q r1 a1 q1 (k.mono t1), x⟩
def rdListV : RDC := fun ds S Q => match ds with
  | [d] => seqOf d S fun xs => Q (.rol xs) S
  | _ => False
theorem l_listV {K : PySem.W.Frag} : LRCV K (fun xs H Q => ∃ p ys, xs = [.ref p] ∧ (SqL K H p ys ∨ SqT K H p ys) ∧ ∀ l, H l = none → Q (.ref l) (upd H l (.lst ys))) rdListV := by
  intro vs H ds S Qh Q r hS h k
  unfold rdListV at h
  split at h
  · obtain ⟨v, rfl, rr⟩ := one_i r
    obtain ⟨a, us, xs, rfl, hl, rl, q⟩ := seqOf_i rr hS h
    exact ⟨a, us, rfl, hl, fun p hp => k.frzL q hp rl hS⟩
  · exact h.elim
def rdSortedV : RDC := fun ds S Q => match ds with
  | [d] => lstOf d S fun xs => ∃ ns : List Int, xs = ns.map Dv.int ∧ ns.length < 64 ∧ ∀ ns' : List Int, ns'.Perm ns → ns'.Pairwise (· ≤ ·) → Q (.rol (ns'.map Dv.int)) S
  | _ => False
theorem l_sortedV {K : PySem.W.Frag} : LRCV K (rSorted K) rdSortedV := by
  intro vs H ds S Qh Q r hS h k
  unfold rdSortedV at h
  split at h
  · obtain ⟨v, rfl, rr⟩ := one_i r
    obtain ⟨a, us, xs, rfl, hl, rl, bs, rfl, hlen, q⟩ := lstOf_i rr hS h
    exact ⟨a, bs, rfl, by rw [← rl.ints]; exact hl, hlen, fun ns' p h1 h2 hp => k.frzL (q ns' h1 h2) hp (RepL.of_ints ns') hS⟩
  · exact h.elim
/-! max, min of a list of ints -/
def rdMaxL : RDC := fun ds S Q => match ds with
  | [d] => lstOf d S fun xs => ∃ ns : List Int, xs = ns.map Dv.int ∧ 0 < ns.length ∧ ∀ m, m ∈ ns → (∀ y ∈ ns, y ≤ m) → Q (.int m) S
  | [.int i, .int j] => Q (.int (if j > i then j else i)) S
  | _ => False
def rdMinL : RDC := fun ds S Q => match ds with
  | [d] => lstOf d S fun xs => ∃ ns : List Int, xs = ns.map Dv.int ∧ 0 < ns.length ∧ ∀ m, m ∈ ns → (∀ y ∈ ns, m ≤ y) → Q (.int m) S
  | [.int i, .int j] => Q (.int (if j < i then j else i)) S
  | _ => False
theorem call_maxA (hc : X.calm = true) : CallR X (.builtin "max") (fun xs H Q => rMax X.K xs H Q ∨ ∃ i j, xs = [.int i, .int j] ∧ Q (.int (if j > i then j else i)) H) := (cr_max hc).or (call_max2 hc)
theorem call_minA (hc : X.calm = true) : CallR X (.builtin "min") (fun xs H Q => rMin X.K xs H Q ∨ ∃ i j, xs = [.int i, .int j] ∧ Q (.int (if j < i then j else i)) H) := (cr_min hc).or (call_min2 hc)
theorem l_maxL {K : PySem.W.Frag} : LRC K (fun xs H Q => rMax K xs H Q ∨ ∃ i j, xs = [.int i, .int j] ∧ Q (.int (if j > i then j else i)) H) rdMaxL := by
  intro vs H ds S Qh Q r hS h k
  unfold rdMaxL at h
  split at h
  · obtain ⟨v, rfl, rr⟩ := one_i r
    obtain ⟨a, us, xs, rfl, hl, rl, bs, rfl, hlen, q⟩ := lstOf_i rr hS h
    exact .inl ⟨a, bs, rfl, by rw [← rl.ints]; exact hl, hlen, fun m h1 h2 => k.now (q m h1 h2) (.int _) hS⟩
  · obtain ⟨v, u, rfl, r1, r2⟩ := two_i r
    rw [r1.i_int, r2.i_int]
    exact .inr ⟨_, _, rfl, k.now h (.int _) hS⟩
  · exact h.elim
theorem l_minL {K : PySem.W.Frag} : LRC K (fun xs H Q => rMin K xs H Q ∨ ∃ i j, xs = [.int i, .int j] ∧ Q (.int (if j < i then j else i)) H) rdMinL := by
  intro vs H ds S Qh Q r hS h k
  unfold rdMinL at h
  split at h
  · obtain ⟨v, rfl, rr⟩ := one_i r
    obtain ⟨a, us, xs, rfl, hl, rl, bs, rfl, hlen, q⟩ := lstOf_i rr hS h
    exact .inl ⟨a, bs, rfl, by rw [← rl.ints]; exact hl, hlen, fun m h1 h2 => k.now (q m h1 h2) (.int _) hS⟩
  · obtain ⟨v, u, rfl, r1, r2⟩ := two_i r
    rw [r1.i_int, r2.i_int]
    exact .inr ⟨_, _, rfl, k.now h (.int _) hS⟩
  · exact h.elim
/-! ### data -/
theorem valOf_dp {K : PySem.W.Frag} {H : Hp} {S : Sto} {v : V} {d : Dv} (r : Rep K H v d) (hS : Abs K H S) (s : isD (valOf d S) = true) : Dp K H v (py (valOf d S)) := by
  by_cases hv : ∃ a xs, d = .ref a ∧ S a = some (.lst xs)
  · obtain ⟨a, xs, rfl, e⟩ := hv
    have e2 : valOf (.ref a) S = .rol xs := by unfold valOf; dsimp only; rw [e]
    rw [e2] at s ⊢
    obtain ⟨us, h1, l1⟩ := hS _ _ e
    rw [r.i_ref]
    exact .lst (.inl (.inl h1)) (RepL.dp _ l1 (by simpa [isD] using s))
  · have e2 : valOf d S = d := by
      unfold valOf
      split
      · rename_i a
        split
        · rename_i xs e; exact absurd ⟨a, xs, rfl, e⟩ hv
        · rfl
      · rfl
    rw [e2] at s ⊢
    exact Rep.dp _ r s
/-! repr -/
def shwD (d : Dv) : Bool := isD d && (py d).showable && !(py d).hasDict && decide ((py d).depth ≤ 64) && decide ((py d).shown.length ≤ sizeLine)
def rReprD (K : PySem.W.Frag) : List V → Hp → VK → Prop := fun xs H Q => ∃ x d, xs = [x] ∧ Dp K H x d ∧ d.showable = true ∧ d.hasDict = false ∧ d.depth ≤ 64 ∧ d.shown.length ≤ sizeLine ∧ Q (.str d.shown) H
theorem call_reprD (hg : X.A.guards = some []) (hu : X.A.units + 80 < cLine) : CallR X (.builtin "repr") (rReprD X.K) := by
  intro pins s σ H xs us Q I r h
  obtain ⟨x, d, rfl, dp, h1, h2, h3, h4, q⟩ := h
  obtain ⟨u, rfl, r1⟩ := vals1 r
  obtain ⟨as, rd⟩ := Dp.reads I d x u dp r1
  have done : ∀ {tk : Tok} {h' : Heap} {n : Nat}, (∀ b o, s.heap.get? b = some o → h'.get? b = some o) → EP X pins σ Q (.str d.shown tk) { s with heap := h', toks := n } := fun {tk h' n} kp => ⟨.str d.shown, H, I.kept (t' := n) kp, ⟨tk, rfl⟩, q⟩
  cases dp with
  | non => cases (show u = Value.none from r1); exact PySem.P.repr_of_none (done fun _ _ h => h)
  | bl b => cases (show u = Value.bool b from r1); exact PySem.P.repr_of_bool (done fun _ _ h => h)
  | int i =>
    obtain ⟨t, q⟩ := (show ∃ t, u = Value.int i t from r1); cases q
    exact PySem.P.repr_of_int (by simpa [PyData.showable] using h1) (done fun _ _ h => h)
  | str y =>
    obtain ⟨t, q⟩ := (show ∃ t, u = Value.str y t from r1); cases q
    exact PySem.P.repr_of_str (done fun _ _ h => h) h4
  | lst hs ha => cases (show u = Value.ref _ from r1); exact repr_of_reads' rd h1 (PyData.noDict_hsm h2) hg (by omega) (fun _ _ h => h) (fun h' u' tk kp => done kp) h4
  | tup hs ha => cases (show u = Value.ref _ from r1); exact repr_of_reads' rd h1 (PyData.noDict_hsm h2) hg (by omega) (fun _ _ h => h) (fun h' u' tk kp => done kp) h4
def rdRepr : RDC := fun ds S Q => match ds with
  | [d] => shwD (valOf d S) = true ∧ Q (.str (py (valOf d S)).shown) S
  | _ => False
theorem l_repr {K : PySem.W.Frag} : LRC K (rReprD K) rdRepr := by
  intro vs H ds S Qh Q r hS h k
  unfold rdRepr at h
  split at h
  · obtain ⟨v, rfl, rr⟩ := one_i r
    obtain ⟨s, q⟩ := h
    unfold shwD at s
    simp only [Bool.and_eq_true, decide_eq_true_eq, Bool.not_eq_true'] at s
    exact ⟨v, _, rfl, valOf_dp rr hS s.1.1.1.1, s.1.1.1.2, s.1.1.2, s.1.2, s.2, k.now q (.str _) hS⟩
  · exact h.elim
/-! x in xs -/
def anyEq (x : Dv) (xs : List Dv) : Bool := xs.any fun z => eqvD z x
def inAll (xs : List Dv) : Bool := shpL xs
theorem pyL_map (xs : List Dv) : pyL xs = xs.map py := by
  induction xs with
  | nil => rfl
  | cons x xs ih => simp [pyL, ih]
/-- x in a list of data; x in a tuple of flat things -/
def flatD : Dv → Bool
  | .non | .bl _ | .int _ | .str _ => true
  | _ => false
def rdIn (f : Bool → Bool) : RD2 := fun x y S Q => match y with
  | .tup xs => (flatD x = true ∧ xs.all flatD = true) ∧ Q (.bl (f (anyEq x xs))) S
  | y => shp (valOf x S) = true ∧ lstOf y S fun xs => shpL xs = true ∧ Q (.bl (f (anyEq (valOf x S) xs))) S

theorem flat_v {K : PySem.W.Frag} {H : Hp} {v : V} {d : Dv} (r : Rep K H v d) (h : flatD d = true) : flatV v = true := by
  cases r <;> first | rfl | cases h
theorem eq_v {K : PySem.W.Frag} {H : Hp} {v u : V} {d e : Dv} (r : Rep K H v d) (r2 : Rep K H u e) (h : flatD d = true) (h2 : flatD e = true) : eqV v u = eqvD d e := by
  cases r <;> first
    | (cases h; done)
    | (cases r2 <;> first | (cases h2; done) | (simp [eqV, eqvD, py, PyData.eqv]))
theorem in_v {K : PySem.W.Frag} {H : Hp} {v : V} {d : Dv} (r : Rep K H v d) (h : flatD d = true) : ∀ {us : List V} {xs : List Dv}, RepL K H us xs → xs.all flatD = true → us.all flatV = true ∧ inV v us = anyEq d xs
  | _, _, .nil, _ => ⟨rfl, rfl⟩
  | _, _, .cons r1 l, e => by
    rw [List.all_cons, Bool.and_eq_true] at e
    obtain ⟨h1, h2⟩ := in_v r h l e.2
    refine ⟨by rw [List.all_cons, flat_v r1 e.1, h1]; rfl, ?_⟩
    unfold inV anyEq at *
    rw [List.any_cons, List.any_cons, h2, eq_v r1 r e.1 h]
def rInA (K : PySem.W.Frag) : R2 := fun x y H Q => rIn K false x y H Q ∨ rInD K x y H Q
def rNotInA (K : PySem.W.Frag) : R2 := fun x y H Q => rIn K true x y H Q ∨ rNotInD K x y H Q
theorem op_inA (hu : X.A.units + 65 < cLine) : OpR X (compareOp .In) (rInA X.K) := op_in_seq.or (op_inD hu)
theorem op_notInA (hu : X.A.units + 65 < cLine) : OpR X (compareOp .NotIn) (rNotInA X.K) := op_notIn_seq.or (op_notInD hu)
theorem anyEq_py (x : Dv) (xs : List Dv) : (pyL xs).any (fun z => PyData.eqv z (py x)) = anyEq x xs := by
  rw [pyL_map]
  unfold anyEq eqvD
  rw [List.any_map]
  rfl
theorem l_in {K : PySem.W.Frag} : LR2 K (rInA K) (rdIn fun b => b) := by
  intro x y H dx dy S Qh Q rx ry hS h k
  unfold rdIn at h
  split at h
  · obtain ⟨⟨h1, h2⟩, q⟩ := h
    obtain ⟨a, us, rfl, ha, la⟩ := ry.i_tup
    obtain ⟨e1, e2⟩ := in_v rx h1 la h2
    refine .inl ⟨a, us, rfl, .inr ha, flat_v rx h1, e1, ?_⟩
    rw [e2]
    exact k.now q (.bl _) hS
  · obtain ⟨h1, h2⟩ := h
    obtain ⟨a, us, xs, rfl, l1, r1, h3, q⟩ := lstOf_c ry hS h2
    unfold shpL at h3
    rw [Bool.and_eq_true] at h3
    refine .inr ⟨py (valOf _ S), pyL xs, valOf_dp rx hS (shp_i h1).1, .lst l1.sq (RepL.dp _ r1 h3.1), (shp_i h1).2, h3.2, ?_⟩
    rw [anyEq_py]
    exact k.now q (.bl _) hS
theorem l_notIn {K : PySem.W.Frag} : LR2 K (rNotInA K) (rdIn fun b => !b) := by
  intro x y H dx dy S Qh Q rx ry hS h k
  unfold rdIn at h
  split at h
  · obtain ⟨⟨h1, h2⟩, q⟩ := h
    obtain ⟨a, us, rfl, ha, la⟩ := ry.i_tup
    obtain ⟨e1, e2⟩ := in_v rx h1 la h2
    refine .inl ⟨a, us, rfl, .inr ha, flat_v rx h1, e1, ?_⟩
    rw [e2]
    exact k.now q (.bl _) hS
  · obtain ⟨h1, h2⟩ := h
    obtain ⟨a, us, xs, rfl, l1, r1, h3, q⟩ := lstOf_c ry hS h2
    unfold shpL at h3
    rw [Bool.and_eq_true] at h3
    refine .inr ⟨py (valOf _ S), pyL xs, valOf_dp rx hS (shp_i h1).1, .lst l1.sq (RepL.dp _ r1 h3.1), (shp_i h1).2, h3.2, ?_⟩
    rw [anyEq_py]
    exact k.now q (.bl _) hS
/-! ### a field as a target; o.f op= e -/
def gFldR (K : PySem.W.Frag) (cs : List Addr) (ta : TE) (f : Str) : TG := fun v σ H Q => ta σ H fun x H1 => ∃ a C dx fs, x = .ref a ∧ H1 a = some (.ins C dx fs) ∧ C ∈ cs ∧ fs.length < 1000 ∧ Q σ (upd H1 a (.ins C dx (L2.putF f v fs)))
theorem pg_fldR {cs : List Addr} {f : Str} {o : Expr} {ta : TE} (hc : ∀ C ∈ cs, Cls X.K C ∧ NoAttr X.K C f) (ho : PE X o ta) : PG X (.Attribute o f pos) (gFldR X.K cs ta f) := by
  constructor
  intro pins s σ H v u Q I r h
  rw [arm_assign_Attribute]
  refine wpAny_bind (wpAny_holding (thn (ho.run pins s σ H _ I h) fun ov s1 ⟨x, H1, I1, r1, a, C, dx, fs, ex, ea, hm, l, q⟩ => ?_))
  subst ex
  obtain rfl : ov = Value.ref a := r1
  refine wpAny_bind (wpAny_standAt (wpAny_bind (wpAny_holding (setattr_ok I1 ea (hc C hm).1 (hc C hm).2 l r fun s3 I3 => ?_))))
  exact wpAny_release ⟨σ, _, I3, q⟩
def gFldD (cs : List Addr) (f : Str) (dO : DE) : DG := fun d ρ S Q => dO ρ S (fun x S1 => match x with
  | .ref a => match S1 a with
    | some (.ins C dx fs) => C ∈ cs ∧ fs.length < 1000 ∧ Q ρ (put S1 a (.ins C dx (putFD f d fs)))
    | _ => False
  | _ => False) X0
theorem g_fld {cs : List Addr} {f : Str} {o : Expr} {dO : DE} (hc : ∀ C ∈ cs, Cls X.K C ∧ NoAttr X.K C f) (ho : PE X o (low X.K W dO)) : PG X (.Attribute o f pos) (lowG X.K (gFldD cs f dO)) :=
  pgi (pg_fldR hc ho) fun v σ H Q ⟨d, ρ, S, Qh, r, hσ, hS, h, k⟩ => ⟨ρ, S, _, X0, hσ, hS, h, fun d1 S1 v1 H1 q1 t1 r1 a1 => by
    dsimp only at q1
    split at q1
    · rename_i a
      split at q1
      · rename_i C dx fs ea
        obtain ⟨hm, hl, q⟩ := q1
        obtain ⟨gs, h1, h2⟩ := a1 _ _ ea
        have tw : Tk X.K H1 (upd H1 a (.ins C dx (L2.putF f v gs))) := Tk.write h1 wr_ins
        exact ⟨a, C, dx, gs, r1.i_ref, h1, hm, by rw [repF_len h2]; exact hl, k ρ _ σ _ q (t1.trans tw) (hσ.mono (t1.trans tw)) (a1.write h1 wr_ins (.mins upd_same ((repF_put (r.mono t1) h2).mono tw)))⟩
      · exact q1.elim
    · exact q1.elim, lx0⟩
def dAugF (cs : List Addr) (f : Str) (rd : RD2) (dO de : DE) : DS := fun D ρ S => dO ρ S (fun x S1 => match x with
  | .ref a => match S1 a with
    | some (.ins C dx fs) => C ∈ cs ∧ ∃ v, fs.lookup f = some v ∧ de ρ S1 (fun y S2 => rd v y S2 fun z S3 => match S3 a with
      | some (.ins C' dx' fs') => C' = C ∧ fs'.length < 1000 ∧ D.nx ρ (put S3 a (.ins C' dx' (putFD f z fs')))
      | _ => False) (D.xd ρ)
    | _ => False
  | _ => False) (D.xd ρ)
theorem s_augF {cs : List Addr} {f : Str} {op : Operator} {r : V → V → Hp → VK → Prop} {rd : RD2} {o : Expr} {dO : DE} {tpos : Pos} (hc : ∀ C ∈ cs, Cls X.K C ∧ NoAttr X.K C f) (hop : InOp X op r) (hl : LR2 X.K r rd) (ho : PE X o (low X.K W dO)) (he : PE X e (low X.K W de)) :
    PS X (.AugAssign (.Attribute o f tpos) op e pos) (lowS X.K W (dAugF cs f rd dO de)) := psi (ps_fldaug ho he hop) fun D σ H ⟨ρ, S, Dh, hσ, hS, h, k⟩ =>
  ⟨ρ, S, _, _, hσ, hS, h, fun d1 S1 v1 H1 q1 t1 r1 a1 => by
    dsimp only at q1
    split at q1
    · rename_i a
      split at q1
      · rename_i C dx fs ea
        obtain ⟨hm, v, hv, q⟩ := q1
        obtain ⟨gs, h1, h2⟩ := a1 _ _ ea
        obtain ⟨u, hu, ru⟩ := lookF h2 hv
        refine ⟨a, C, dx, gs, u, r1.i_ref, h1, (hc C hm).1, (hc C hm).2, hu, ρ, S1, _, _, hσ.mono t1, a1, q, fun d2 S2 v2 H2 q2 t2 r2 a2 => hl u v2 H2 v d2 S2 _ _ (ru.mono t2) r2 a2 q2 fun d3 S3 v3 H3 q3 t3 r3 a3 => ?_, (k.mono t1).lx (hσ.mono t1)⟩
        split at q3
        · rename_i C' dx' fs' e3
          obtain ⟨rfl, hl3, q⟩ := q3
          obtain ⟨gs3, g1, g2⟩ := a3 _ _ e3
          have tw : Tk X.K H3 (upd H3 a (.ins C' dx' (L2.putF f v3 gs3))) := Tk.write g1 wr_ins
          have ta := (t1.trans t2).trans (t3.trans tw)
          exact ⟨dx', gs3, g1, by rw [repF_len g2]; exact hl3, k.nx ρ _ σ _ q ta (hσ.mono ta) (a3.write g1 wr_ins (.mins upd_same ((repF_put r3 g2).mono tw)))⟩
        · exact q3.elim
      · exact q1.elim
    · exact q1.elim, k.lx hσ⟩
theorem l_fadd {K : PySem.W.Frag} : LR2 K L2.rAdd rdIAdd := by
  intro x y H dx dy S Qh Q rx ry hS h k
  unfold rdIAdd at h
  split at h
  · exact ⟨_, _, rx.i_int, ry.i_int, k.now h (.int _) hS⟩
  · exact h.elim
theorem l_fsub {K : PySem.W.Frag} : LR2 K L2.rSub rdSub := by
  intro x y H dx dy S Qh Q rx ry hS h k
  unfold rdSub at h
  split at h
  · exact ⟨_, _, rx.i_int, ry.i_int, k.now h (.int _) hS⟩
  · exact h.elim
/-! ### xs.pop(i), xs.pop() -/
def rdPopAt : RDM := fun x ds S Q => match x, ds with
  | .ref a, [.int i] => match S a with
    | some (.lst xs) => ∃ j d, (-(2 ^ 63) ≤ i ∧ i < 2 ^ 63) ∧ seqIndex? i xs.length = some j ∧ xs[j]? = some d ∧ Q d (put S a (.lst (xs.eraseIdx j)))
    | _ => False
  | _, _ => False
theorem mt_popR : MtR X "list.pop" rPopAt := fun pins s σ H x vs v us Q I rx rv h => mt_popAt pins s σ H x vs v us Q I rx rv h
theorem l_popAt {K : PySem.W.Frag} : LRM K rPopAt rdPopAt := by
  intro x vs H d ds S Qh Q rx r hS h k
  unfold rdPopAt at h
  split at h
  · rename_i a i
    obtain ⟨v, rfl, r1⟩ := one_i r
    split at h
    · rename_i xs ea
      obtain ⟨us, h1, l⟩ := hS _ _ ea
      obtain ⟨j, d, ⟨b1, b2⟩, hj, hd, q⟩ := h
      obtain ⟨y, hy, ry⟩ := l.get hd
      have tw : Tk K H (upd H a (.lst (us.eraseIdx j))) := Tk.write h1 wr_lst
      rw [r1.i_int]
      exact ⟨a, us, i, j, y, rx.i_ref, rfl, h1, b1, b2, by rw [l.length]; exact hj, hy, k _ _ _ _ q tw (ry.mono tw) (hS.write h1 wr_lst (.mlst upd_same ((l.mono tw).erase j)))⟩
    · exact h.elim
  · exact h.elim
end
/-! ### comprehensions whose list is frozen -/
section
variable {g : DG} {te : DE} {tt : DT} {vs : List Nat} {ρ : Rho} {Q : QD} {items : List Dv} {stay : Sto → Prop} {S : Sto}
theorem lcV_pure (f : Dv → Dv) (hl : items.length ≤ sizeLine) (hst : ∀ p m, S p = none → stay (put S p m)) (he : ∀ x ∈ items, ∀ (T : Sto) (K : QD), Sub S T → K (f x) T → g x (wipeD ρ vs) T fun ρ2 S2 => te ρ2 S2 K X0)
    (hQ : Q (.rol (items.map f)) S) : LcGo g dYes te vs ρ (fun d S1 => frzD d S1 Q) items stay S := lc_pure f hl hst he fun p hp => by
  unfold frzD
  dsimp only
  rw [put_same, rm_put hp]
  exact hQ
theorem lcV_filter (c : Dv → Bool) (f : Dv → Dv) (hl : items.length ≤ sizeLine) (hst : ∀ p m, S p = none → stay (put S p m))
    (he : ∀ x ∈ items, ∀ (T : Sto) (K : QD) (N : Sto → Prop), Sub S T → (c x = true → K (f x) T) → (c x = false → N T) → g x (wipeD ρ vs) T fun ρ2 S2 => tt ρ2 S2 (fun b S3 => if b = true then te ρ2 S3 K X0 else N S3) X0)
    (hQ : Q (.rol ((items.filter c).map f)) S) : LcGo g tt te vs ρ (fun d S1 => frzD d S1 Q) items stay S := lc_filter c f hl hst he fun p hp => by
  unfold frzD
  dsimp only
  rw [put_same, rm_put hp]
  exact hQ
end
/-! ### a def that forgets what it made -/
def RdF (t : DS) (n : Nat) (sp : SpD) : Prop := ∀ ds S Q Xh, sp ds S Q Xh → t { nx := fun _ S' => ∃ T, Sub T S' ∧ Q .non T, rt := fun d S' => ∃ T, Sub T S' ∧ Q d T, ex := fun c da _ S' => ∃ T, Sub T S' ∧ Xh c da T } (startN n ds) S
theorem okF {P : Program} {w : World} {K : PySem.W.Frag} {mg : Str → Option Value} {base : Heap} {x qual : Str} {st : Stmt} {f : Addr} {fd : FuncData} {N ps : List Str} {k : Nat} {sp : SpD} (F : Fun K x qual st f fd) (Sc : FnScope N ps (defScope st)) (len : ∀ ds S Q X, sp ds S Q X → ds.length = ps.length)
    (t : DS) (hb : ∀ (cdv : Value) (A : Around) (outer : List Env) (s : Shared) (H : Hp) (E : XK), RoomG k (A.deeper (envOfC qual (defScope st) s.heap.objs.size f cdv)) →
      PSs (cxOf (L2.CX P w) P w K mg base N qual (defScope st) f cdv A outer s H E) (defBody st) (lowS K (WF E) t))
    (hr : RdF t N.length sp) : FnD P w K mg base (k + 1) f fd ps sp := by
  refine funG F Sc (fun vs H Q E ⟨ds, S, Qh, Xh, r, a, h, _⟩ => by rw [r.length]; exact len _ _ _ _ h) fun cdv A outer s H vs Q E hr' ⟨ds, S, Qh, Xh, r, a, h, k1, k2⟩ => ?_
  refine ⟨_, hb cdv A outer s H E hr', startD N ds, S, _, RepS.start r, a, hr ds S Qh Xh h, ⟨fun ρ' S' σ' H' ⟨T, sb, q⟩ t _ a => k1 .non T .non H' q t .non (a.sub sb), fun d S' v H' ⟨T, sb, q⟩ t r a => k1 d T v H' q t r (a.sub sb), fun _ _ _ _ (q : False) => False.elim q, fun _ _ _ _ (q : False) => False.elim q, fun c da ρ' S' σ' H' ⟨T, sb, q⟩ t _ a => k2 c da T H' q t (a.sub sb)⟩⟩
theorem Sub.rf {S : Sto} : Sub S S := Sub.refl S
/-! ### xs.extend(ys), ys any sequence; list * int -/
section
variable {X : Cx} {K : PySem.W.Frag}
def rExtC (K : PySem.W.Frag) : V → List V → Hp → VK → Prop := fun x vs H Q => ∃ l b xs zs, x = .ref l ∧ vs = [.ref b] ∧ H l = some (.lst xs) ∧ LC K H b zs ∧ xs.length + zs.length ≤ sizeLine ∧ Q .non (upd H l (.lst (xs ++ zs)))
theorem mt_extC : MtR X "list.extend" (rExtC X.K) := by
  intro pins s σ H x vs v us Q I rx rv h
  obtain ⟨l, b, xs, zs, rfl, rfl, hx, hy, fits, q⟩ := h
  obtain rfl : v = Value.ref l := rx
  obtain ⟨u, rfl, ru⟩ := rv.one
  obtain rfl : u = Value.ref b := ru
  obtain ⟨_, its, n, r, hl, e⟩ := I.lstM hx
  obtain ⟨_, its2, n2, r2, hl2, e2⟩ := hy.at_ I
  have few : its.toArray.size + its2.toArray.size ≤ sizeLine := by simp only [List.size_toArray]; omega
  have short : ¬ (!its.toArray.isEmpty && Builtin.List.listTooLong (its.toArray.size + its2.toArray.size)) = true := by
    rw [notLongL few, Bool.and_false]; decide
  refine call_meets F.slot_list_extend ⟨_, e, rfl⟩ F.entry_list_extend (F.args_list_extend_2 _ _) (AutoSeq1.list_extend_list_list_0 l its.toArray n b its2.toArray n2 short (by rw [List.size_toArray]; omega) (by omega)) ⟨e, e2, ?_⟩
  exact ⟨.non, _, I.lset (its' := its ++ its2) hx e (by simp) (r.append r2) (by rw [List.length_append]; omega), rfl, q⟩
def rdExt : RDM := fun x ds S Q => match x, ds with
  | .ref a, [y] => match S a with
    | some (.lst xs) => seqOf y S fun ys => xs.length + ys.length ≤ sizeLine ∧ Q .non (put S a (.lst (xs ++ ys)))
    | _ => False
  | _, _ => False
theorem mt_extB : MtR X "list.extend" (fun x vs H Q => rExtT X.K x vs H Q ∨ rExtC X.K x vs H Q) := MtR.or mt_extT mt_extC
theorem seqOf_c {H : Hp} {S : Sto} {d : Dv} {v : V} {R : List Dv → Prop} (r : Rep K H v d) (hS : Abs K H S) (h : seqOf d S R) : ∃ a us xs, v = .ref a ∧ (LC K H a us ∨ SqT K H a us) ∧ RepL K H us xs ∧ R xs := by
  unfold seqOf at h
  split at h
  · obtain ⟨a, us, rfl, ha, la⟩ := r.i_tup
    exact ⟨a, us, _, rfl, .inr ha, la, h⟩
  · obtain ⟨a, us, rfl, ha, la⟩ := r.i_rol
    exact ⟨a, us, _, rfl, .inl (.inr ha), la, h⟩
  · rename_i a
    split at h
    · rename_i xs ea
      obtain ⟨us, h1, la⟩ := hS _ _ ea
      exact ⟨a, us, xs, r.i_ref, .inl (.inl h1), la, h⟩
    · exact h.elim
  · exact h.elim
theorem l_extB : LRM K (fun x vs H Q => rExtT K x vs H Q ∨ rExtC K x vs H Q) rdExt := by
  intro x vs H d ds S Qh Q rx r hS h k
  unfold rdExt at h
  split at h
  · rename_i a y
    obtain ⟨v, rfl, r1⟩ := one_i r
    split at h
    · rename_i xs ea
      obtain ⟨us, h1, l⟩ := hS _ _ ea
      obtain ⟨b, zs, ys, rfl, hb, lb, hz, q⟩ := seqOf_c r1 hS h
      have tw : Tk K H (upd H a (.lst (us ++ zs))) := Tk.write h1 wr_lst
      have fits : us.length + zs.length ≤ sizeLine := by rw [l.length, lb.length]; exact hz
      have done := k _ _ _ _ q tw .non (hS.write h1 wr_lst (.mlst upd_same ((l.mono tw).append (lb.mono tw))))
      rcases hb with hb | hb
      · exact .inr ⟨a, b, us, zs, rx.i_ref, rfl, h1, hb, fits, done⟩
      · exact .inl ⟨a, b, us, zs, rx.i_ref, rfl, h1, hb, fits, done⟩
    · exact h.elim
  · exact h.elim
def rRepC (K : PySem.W.Frag) : R2 := fun x y H Q => ∃ l k xs, x = .ref l ∧ y = .int k ∧ LC K H l xs ∧ (-(2 ^ 63) ≤ k ∧ k < 2 ^ 63) ∧ xs.length * k.toNat ≤ sizeLine ∧ ∀ p, H p = none → Q (.ref p) (upd H p (.lst (List.replicate k.toNat xs).flatten))
theorem op_repC : OpR X (binaryOp .Mult) (rRepC X.K) := by
  intro pins s σ H x y v u Q I rx ry h
  obtain ⟨l, k, xs, rfl, rfl, hx, ⟨h1, h2⟩, hz, q⟩ := h
  obtain rfl : v = Value.ref l := rx
  obtain ⟨t, rfl⟩ := (show ∃ t, u = Value.int k t from ry)
  obtain ⟨_, its, n, r, hl, e⟩ := hx.at_ I
  have few : its.toArray.size * k.toNat ≤ sizeLine := by rw [List.size_toArray, ← hl]; exact hz
  have cap : ¬ its.toArray.size * k.toNat > (2 ^ 63 - 1) / 8 := by
    have : (sizeLine : Nat) ≤ (2 ^ 63 - 1) / 8 := by decide
    omega
  have fit : ¬ (!Builtin.List.listFitsIndex k) = true := by rw [fitsIndex_both h1 h2]; decide
  have short : ¬ Builtin.List.listTooLong (its.toArray.size * k.toNat) = true := by rw [notLongL few]; decide
  have new : List.foldl (fun x1 x2 => x1 ++ x2) #[] (List.replicate (if its.toArray.isEmpty = true then 0 else k.toNat) its.toArray) = (List.replicate k.toNat its).flatten.toArray := by
    have f0 : ∀ m : Nat, List.foldl (fun x1 x2 => x1 ++ x2) #[] (List.replicate m its.toArray) = (List.replicate m its).flatten.toArray := fun m => by
      simpa using foldl_rep its m []
    rw [f0]
    cases its with
    | nil => simp
    | cons a r' => rw [if_neg (by simp)]
  refine wpAny_binaryOp_repeat_ref (T := "list") (U := "int") (by decide) ⟨_, e, rfl⟩ (fun s' => typeIs_int s' k t) noFill_list_mul F.fills_int_mul F.slot_int_rmul repeat_list F.slot_int_index.lookup (call_meets F.slot_int_rmul (typeIs_int s k t) F.entry_int_rmul (F.args_int_rmul_2 _ _) (int___rmul___int_list k t l its.toArray n) ⟨e, rfl, ⟨_, e, rfl⟩, call_meets F.slot_list_mul ⟨_, e, rfl⟩ F.entry_list_mul (F.args_list_mul_2 _ _) (AutoListH.list___mul___list_int_3 l its.toArray n k t fit cap short) ⟨e, ?_⟩⟩)
  rw [new]
  exact ⟨.ref _, _, I.lnew (t' := s.toks) (r.rep k.toNat) (by rw [PyProof.Rows.lm_len_rep_flat, Nat.mul_comm]; exact hz), rfl, q _ I.fresh⟩
/-- a tuple no time -/
theorem tuple_mul0 (l : Addr) (items : Array Value) (n : Nat) (dd : Option Addr) (sl : Array (Option Value)) (x : Int) (u : Tok) (c0 : (decide (x < -(2 ^ 63)) || decide (x ≥ 2 ^ 63)) = false) (c1 : (items.isEmpty || x == 1) = false) (c2 : (decide (x ≤ 0) || items.isEmpty) = true) :
    Meets (Builtin.«tuple.__mul__» ⟨[.ref l, .int x u], []⟩) (fun _ R s => s.heap.get? l = some { cls := .type "tuple", dict := dd, data := .seq items n, slots := sl } ∧
      R (.ok (.ret (Value.ref s.heap.objs.size))) { s with heap := s.heap.push { cls := Value.type "tuple", data := Data.seq #[] }, toks := s.toks }) :=
  .of_wp fun prog w A R s h => by
    obtain ⟨hp, g, d, tk, os⟩ := s
    obtain ⟨hl, h⟩ := h
    have f1 := AutoSeq1.idx_int
    wp_walk using wpAny_loadPart' hl
    repeat (first
      | (refine wpAny_ite_false (decide_eq_false (by rw [c0]; exact Bool.false_ne_true)) ?_; wp_walk using wpAny_loadPart' hl)
      | (refine wpAny_ite_false (decide_eq_false (by rw [c1]; exact Bool.false_ne_true)) ?_; wp_walk using wpAny_loadPart' hl)
      | (refine wpAny_ite_true (decide_eq_true c2) ?_; wp_walk using wpAny_loadPart' hl))
    exact ⟨_, rfl, h⟩
def rRep0 (K : PySem.W.Frag) : R2 := fun x y H Q => ∃ l k xs, x = .ref l ∧ y = .int k ∧ SqT K H l xs ∧ xs ≠ [] ∧ -(2 ^ 63) ≤ k ∧ k ≤ 0 ∧ ∀ p, H p = none → Q (.ref p) (upd H p (.tup []))
theorem op_rep0 : OpR X (binaryOp .Mult) (rRep0 X.K) := by
  intro pins s σ H x y v u Q I rx ry h
  obtain ⟨l, k, xs, rfl, rfl, hT, hne, h1, h2, q⟩ := h
  cases rx
  obtain ⟨t, rfl⟩ := ry
  obtain ⟨its, r, ⟨⟨cls, dd, data, sl⟩, ho, hc, n, hd⟩, hs⟩ := I.tuple hT
  simp only at hc hd
  subst hc hd
  have hn : its ≠ [] := fun e => by subst e; cases r; exact hne rfl
  have hi : its.toArray.isEmpty = false := by
    cases its with
    | nil => exact absurd rfl hn
    | cons a b => rfl
  have c0 : (decide (k < -(2 ^ 63)) || decide (k ≥ 2 ^ 63)) = false := by
    rw [decide_eq_false (by omega), decide_eq_false (by omega)] <;> rfl
  have c1 : (its.toArray.isEmpty || k == 1) = false := by
    rw [hi, Bool.false_or]
    exact beq_eq_false_iff_ne.mpr (by omega)
  have c2 : (decide (k ≤ 0) || its.toArray.isEmpty) = true := by
    rw [decide_eq_true h2] <;> rfl
  refine wpAny_binaryOp_repeat_ref (T := "tuple") (U := "int") (by decide) ⟨_, ho, rfl⟩ (fun s' => typeIs_int s' k t) noFill_tuple_mul F.fills_int_mul F.slot_int_rmul repeat_tuple F.slot_int_index.lookup
    (call_meets F.slot_int_rmul (typeIs_int s k t) F.entry_int_rmul (F.args_int_rmul_2 _ _) (int_rmul_tuple k t l its.toArray n dd sl)
      ⟨ho, rfl, ⟨_, ho, rfl⟩, call_meets F.slot_tuple_mul ⟨_, ho, rfl⟩ F.entry_tuple_mul (F.args_tuple_mul_2 _ _) (tuple_mul0 l its.toArray n dd sl k t c0 c1 c2) ⟨ho, ?_⟩⟩)
  refine ⟨.ref s.heap.objs.size, _, I.laid (t' := s.toks) (o := .tup []) (fun b ob q => Heap.get?_push_of_some _ q) (Nat.le_refl _) ?_, rfl, q _ (I.hok.fresh (Nat.le_refl _))⟩
  exact ⟨by simp, _, .nil, IsTup.new _ _⟩
abbrev rMulB (K : PySem.W.Frag) : R2 := fun x y H Q => rI IntMulOk (fun i j => .int (i * j)) x y H Q ∨ rRepS K x y H Q ∨ rRepT K x y H Q ∨ rRepC K x y H Q ∨ rRep0 K x y H Q
theorem op_mulB : OpR X (binaryOp .Mult) (rMulB X.K) := op_mulK.or (op_repS.or (op_repT.or (op_repC.or op_rep0)))
def rdMulV : RD2 := fun x y S Q => match x, y with
  | .int i, .int j => IntMulOk i j ∧ Q (.int (i * j)) S
  | .tup xs, .int k => (-(2 ^ 63) ≤ k ∧ k ≤ 1000 ∧ xs.length ≤ 1000 ∧ (1 ≤ k ∨ xs ≠ [])) ∧ Q (.tup (List.replicate k.toNat xs).flatten) S
  | x, .int k => lstOf x S fun xs => ((-(2 ^ 63) ≤ k ∧ k < 2 ^ 63) ∧ xs.length * k.toNat ≤ sizeLine) ∧ Q (.rol (List.replicate k.toNat xs).flatten) S
  | _, _ => False
theorem l_mulV : LR2V K (rMulB K) rdMulV := by
  intro x y H dx dy S Qh Q rx ry hS h k
  have go : rdMul dx dy S Qh → (∀ a, dx ≠ .ref a) → rMulB K x y H fun v H1 => FZ v H1 Q := fun h hn => by
    have z := l_mul x y H dx dy S Qh _ rx ry hS h k.fz
    rcases z with z | z | z | z
    · exact .inl z
    · exact .inr (.inl z)
    · exact .inr (.inr (.inl z))
    · unfold rdMul at h
      split at h
      · obtain ⟨l, k, xs, e, _⟩ := z; rw [rx.i_int] at e; cases e
      · obtain ⟨l, k, xs, e, e2, e3, b1, b2, b3, z⟩ := z
        exact .inr (.inr (.inr (.inl ⟨l, k, xs, e, e2, .inl e3, ⟨b1, b2⟩, b3, z⟩)))
      · exact absurd rfl (hn _)
      · exact h.elim
  unfold rdMulV at h
  split at h
  · exact go h (by intro a e; cases e)
  · rename_i xs m
    by_cases h1 : 1 ≤ m
    · exact go ⟨⟨h1, h.1.2.1, h.1.2.2.1⟩, h.2⟩ (by intro a e; cases e)
    · obtain ⟨a, us, rfl, ha, la⟩ := rx.i_tup
      have e0 : m.toNat = 0 := by omega
      have q := h.2
      rw [e0] at q
      cases xs with
      | nil =>
        rcases h.1.2.2.2 with z | z
        · exact absurd z h1
        · exact absurd rfl z
      | cons d ds =>
        refine .inr (.inr (.inr (.inr ⟨a, m, us, rfl, ry.i_int, ha, (fun z => by subst z; cases la), h.1.1, by omega, fun p hp => ?_⟩)))
        exact .inl (k _ _ _ _ q (Tk.new hp) (.tup (.inl (.inl upd_same)) .nil) (hS.tup hp))
  · obtain ⟨a, us, xs, rfl, l1, r1, hb, q⟩ := lstOf_c rx hS h
    exact .inr (.inr (.inr (.inl ⟨a, _, us, rfl, ry.i_int, l1, hb.1, by rw [r1.length]; exact hb.2, fun p hp => k.frzL q hp (r1.rep _) hS⟩)))
  · exact h.elim
end
end VD

namespace VD
open PySem PySem.Spec PyProof.Rows L2
/-- where the classes of the program stand -/
structure Ad where
  WorldError : Addr
  NoNumber : Addr
  NoSeed : Addr
  BadGround : Addr
  BadProgram : Addr
  BadKind : Addr
  BadGame : Addr
  NoWorld : Addr
  NoBody : Addr
  NoWay : Addr
  NoInputs : Addr
  NoHandler : Addr
  NoCode : Addr
  NoRows : Addr
  NoRow : Addr
  NoPlace : Addr
  BadRow : Addr
  BadChange : Addr
  NoSeat : Addr
  NotWaiting : Addr
  NoTick : Addr
  NotOpen : Addr
  Gap : Addr
  BadDeed : Addr
  NoBook : Addr
  NoPeer : Addr
  NoRules : Addr
  NoPast : Addr
  NoLetter : Addr
  NoDeed : Addr
  BadDeeds : Addr
  NoCut : Addr
  NoBlocks : Addr
  NoDisk : Addr
  OtherMatch : Addr
  BadTurns : Addr
  OtherGame : Addr
  Strayed : Addr
  NoNode : Addr
  NoReplay : Addr
  NoExpression : Addr
  BadText : Addr
  NoProgram : Addr
  NoPicture : Addr
  Unlike : Addr
  NoChanges : Addr
  NoLine : Addr
  NoName : Addr
  Ground : Addr
  Program : Addr
  Kind : Addr
  Game : Addr
  World : Addr
  Moving : Addr
  Standing : Addr
  Effects : Addr
  Machine : Addr
  Reader : Addr
  Book : Addr
  Timeline : Addr
  Known : Addr
  Host : Addr
  Heard : Addr
  Gathering : Addr
  Peer : Addr
  Net : Addr
  Disk : Addr
  SavedHost : Addr
  SavedPeer : Addr
  Replay : Addr
  Reel : Addr
  Node : Addr
  Branches : Addr
  Mixer : Addr
  Handlers : Addr
  GameReader : Addr
  Screen : Addr
  Desk : Addr
  ot : OTab
def ad0 : Ad := { WorldError := 0, NoNumber := 0, NoSeed := 0, BadGround := 0, BadProgram := 0, BadKind := 0, BadGame := 0, NoWorld := 0, NoBody := 0, NoWay := 0, NoInputs := 0, NoHandler := 0, NoCode := 0, NoRows := 0, NoRow := 0, NoPlace := 0, BadRow := 0, BadChange := 0, NoSeat := 0, NotWaiting := 0, NoTick := 0, NotOpen := 0, Gap := 0, BadDeed := 0, NoBook := 0, NoPeer := 0, NoRules := 0, NoPast := 0, NoLetter := 0, NoDeed := 0, BadDeeds := 0, NoCut := 0, NoBlocks := 0, NoDisk := 0, OtherMatch := 0, BadTurns := 0, OtherGame := 0, Strayed := 0, NoNode := 0, NoReplay := 0, NoExpression := 0, BadText := 0, NoProgram := 0, NoPicture := 0, Unlike := 0, NoChanges := 0, NoLine := 0, NoName := 0, Ground := 0, Program := 0, Kind := 0, Game := 0, World := 0, Moving := 0, Standing := 0, Effects := 0, Machine := 0, Reader := 0, Book := 0, Timeline := 0, Known := 0, Host := 0, Heard := 0, Gathering := 0, Peer := 0, Net := 0, Disk := 0, SavedHost := 0, SavedPeer := 0, Replay := 0, Reel := 0, Node := 0, Branches := 0, Mixer := 0, Handlers := 0, GameReader := 0, Screen := 0, Desk := 0, ot := ⟨[], []⟩ }
section
variable {X : Cx} {W : WX} {a b c e o : Expr} {da db dc de : DE} {pos p apos : Pos} {es : List Expr} {das : DA} {x m f : Str} {k : Nat} {g C : Addr} {fd : FuncData} {ps : List Str}
theorem fcs_nil {K : PySem.W.Frag} {f : Str} : ∀ C ∈ ([] : List Addr), Cls K C ∧ NoAttr K C f := fun _ h => by cases h
theorem fcs_cons {K : PySem.W.Frag} {f : Str} {C : Addr} {cs : List Addr} (c : Cls K C) (n : NoAttr K C f) (r : ∀ C ∈ cs, Cls K C ∧ NoAttr K C f) : ∀ D ∈ C :: cs, Cls K D ∧ NoAttr K D f := fun D h => by
  rcases List.mem_cons.mp h with rfl | h
  · exact ⟨c, n⟩
  · exact r D h
theorem mt_mk {k' : Nat} {sp : SpD} (c : Cls X.K C) (hm : Meth X.K C m g) (F : FnD X.prog X.w X.K X.mg X.base k' g fd ps sp) (hb : Binds X.K fd ps []) (hk : k' ≤ k) : MT X m k C sp := ⟨c, g, hm, k', fd, ps, hk, F, hb⟩
/-! C(..), by a promise of the whole -/
theorem low_mkM {spI spC : SpD} (hC : ∀ vs S Q Z, spC vs S Q Z → ∀ x dx, S x = none → S dx = none → dx ≠ x → spI (.ref x :: vs) (put S x (.ins C dx [])) (fun v S2 => v = .non ∧ Q (.ref x) S2) Z) :
    ∀ σ H Q, low X.K W (dCall spC das) σ H Q → tMakeG C (lowF X.K spI) (WE W) (lowA X.K W das) σ H Q := fun σ H Q ⟨ρ, S, Qh, Xh, hσ, hS, h, k, x⟩ =>
  ⟨ρ, S, _, Xh, hσ, hS, h, fun ds S1 vs H1 q1 t1 r1 a1 y dx ny nd ne => by
    have t2 : Tk X.K H1 (upd H1 dx (.own y)) := Tk.new nd
    have n2 : upd H1 dx (.own y) y = none := by rw [upd_ne ne.symm]; exact ny
    have t3 := t2.trans (Tk.new (o := .ins C dx []) n2)
    refine ⟨_, _, _, Xh, .cons (.ref y) (r1.mono t3), (a1.tup nd).new n2 (.mins upd_same .nil), hC ds S1 Qh Xh q1 y dx (a1.free ny) (a1.free nd) ne, fun d S' v H' q t r a => ?_, (x.mono t1).mono t3⟩
    obtain ⟨rfl, q⟩ := q
    exact ⟨r.i_non, k _ _ _ _ q ((t1.trans t3).trans t) (.ref y) a⟩, x⟩
theorem d_mkM {spI spC : SpD} {fI : Addr} (hC : ∀ vs S Q Z, spC vs S Q Z → ∀ x dx, S x = none → S dx = none → dx ≠ x → spI (.ref x :: vs) (put S x (.ins C dx [])) (fun v S2 => v = .non ∧ Q (.ref x) S2) Z)
    (M : Mk X.K C fI) (F : FnD X.prog X.w X.K X.mg X.base k fI fd ps spI) (hr : RoomG (k + 1) X.A) (hm : X.mg x = some (.ref C)) (hb : Binds X.K fd ps []) (tk : Takes X W) (ha : PA X (e :: es) (lowA X.K W das)) (hg : Gl X x := by rfl)
    (hdb : (x == ("__debug__" : Str)) = false := by decide) (he : starEach (e :: es) X.env = (false, eval e X.env) :: starEach es X.env := by rfl) (hpl : (backTo pos (starEach es X.env)).any (·.1) = false := by rfl) :
    PE X (.Call (.Name x p) (e :: es) [] pos) (low X.K W (dCall spC das)) := pei (pe_makeG (E := WE W) M F hr hg hm hb (fun σ => passAt tk σ) ha hdb he hpl) (low_mkM hC)
theorem d_mkM0 {spI spC : SpD} {fI : Addr} (hC : ∀ vs S Q Z, spC vs S Q Z → ∀ x dx, S x = none → S dx = none → dx ≠ x → spI (.ref x :: vs) (put S x (.ins C dx [])) (fun v S2 => v = .non ∧ Q (.ref x) S2) Z)
    (M : Mk X.K C fI) (F : FnD X.prog X.w X.K X.mg X.base k fI fd ps spI) (hr : RoomG (k + 1) X.A) (hm : X.mg x = some (.ref C)) (hb : Binds X.K fd ps []) (tk : Takes X W) (hg : Gl X x := by rfl) (hdb : (x == ("__debug__" : Str)) = false := by decide) :
    PE X (.Call (.Name x p) [] [] pos) (low X.K W (dCall spC dNil)) := pei (pe_makeG0 (E := WE W) M F hr hg hm hb (fun σ => passAt tk σ) hdb) fun σ H Q h => by
  obtain ⟨ρ, S, Qh, Xh, hσ, hS, h, k, x⟩ := low_mkM hC σ H Q h
  exact k [] S [] H h (Tk.refl H) .nil hS
theorem low_mkV {spI spC : SpD} (hC : ∀ vs S Q Z, spC vs S Q Z → ∀ x dx, S x = none → S dx = none → dx ≠ x → spI (.ref x :: vs) (put S x (.ins C dx [])) (fun v S2 => v = .non ∧ frzD (.ref x) S2 Q) Z) :
    ∀ σ H Q, low X.K W (dCall spC das) σ H Q → tMakeG C (lowF X.K spI) (WE W) (lowA X.K W das) σ H (fun v H1 => FZ v H1 Q) := fun σ H Q ⟨ρ, S, Qh, Xh, hσ, hS, h, k, x⟩ =>
  ⟨ρ, S, _, Xh, hσ, hS, h, fun ds S1 vs H1 q1 t1 r1 a1 y dx ny nd ne => by
    have t2 : Tk X.K H1 (upd H1 dx (.own y)) := Tk.new nd
    have n2 : upd H1 dx (.own y) y = none := by rw [upd_ne ne.symm]; exact ny
    have t3 := t2.trans (Tk.new (o := .ins C dx []) n2)
    refine ⟨_, _, _, Xh, .cons (.ref y) (r1.mono t3), (a1.tup nd).new n2 (.mins upd_same .nil), hC ds S1 Qh Xh q1 y dx (a1.free ny) (a1.free nd) ne, fun d S' v H' q t r a => ?_, (x.mono t1).mono t3⟩
    obtain ⟨rfl, q⟩ := q
    exact ⟨r.i_non, lk_frzD (.ref y) a q (k.mono ((t1.trans t3).trans t))⟩, x⟩
theorem d_mkV {spI spC : SpD} {fI : Addr} (hC : ∀ vs S Q Z, spC vs S Q Z → ∀ x dx, S x = none → S dx = none → dx ≠ x → spI (.ref x :: vs) (put S x (.ins C dx [])) (fun v S2 => v = .non ∧ frzD (.ref x) S2 Q) Z)
    (M : Mk X.K C fI) (F : FnD X.prog X.w X.K X.mg X.base k fI fd ps spI) (hr : RoomG (k + 1) X.A) (hm : X.mg x = some (.ref C)) (hb : Binds X.K fd ps []) (tk : Takes X W) (ha : PA X (e :: es) (lowA X.K W das)) (hg : Gl X x := by rfl)
    (hdb : (x == ("__debug__" : Str)) = false := by decide) (he : starEach (e :: es) X.env = (false, eval e X.env) :: starEach es X.env := by rfl) (hpl : (backTo pos (starEach es X.env)).any (·.1) = false := by rfl) :
    PE X (.Call (.Name x p) (e :: es) [] pos) (low X.K W (dCall spC das)) := pei (pe_frz (pe_makeG (E := WE W) M F hr hg hm hb (fun σ => passAt tk σ) ha hdb he hpl)) (low_mkV hC)
theorem d_mkV0 {spI spC : SpD} {fI : Addr} (hC : ∀ vs S Q Z, spC vs S Q Z → ∀ x dx, S x = none → S dx = none → dx ≠ x → spI (.ref x :: vs) (put S x (.ins C dx [])) (fun v S2 => v = .non ∧ frzD (.ref x) S2 Q) Z)
    (M : Mk X.K C fI) (F : FnD X.prog X.w X.K X.mg X.base k fI fd ps spI) (hr : RoomG (k + 1) X.A) (hm : X.mg x = some (.ref C)) (hb : Binds X.K fd ps []) (tk : Takes X W) (hg : Gl X x := by rfl) (hdb : (x == ("__debug__" : Str)) = false := by decide) :
    PE X (.Call (.Name x p) [] [] pos) (low X.K W (dCall spC dNil)) := pei (pe_frz (pe_makeG0 (E := WE W) M F hr hg hm hb (fun σ => passAt tk σ) hdb)) fun σ H Q h => by
  obtain ⟨ρ, S, Qh, Xh, hσ, hS, h, k, x⟩ := low_mkV hC σ H Q h
  exact k [] S [] H h (Tk.refl H) .nil hS
/-- y = [..], frozen -/
theorem ps_fzSet {e : Expr} {te : TE} {i : Nat} {y : Str} {py : Pos} (h : PS X (.Assign [.Name y py] e pos) (tAsg te (gName i))) (hN : X.N.Nodup) (hi : X.N[i]? = some y) : PS X (.Assign [.Name y py] e pos) (fun D σ H => te σ H fun x H1 => ∃ v, σ.set i (some x) = σ.set i (some v) ∧ FZ v H1 fun v H2 => D.nx (σ.set i (some v)) H2) := by
  constructor
  intro pins s σ H D I q
  refine wpAny_mono (h.run pins s σ H { D with nx := fun τ H1 => ∃ v, τ = σ.set i (some v) ∧ FZ v H1 fun v H2 => D.nx (σ.set i (some v)) H2 } I q) (fun fl s' hs => ?_) fun e s' h => h
  cases fl with
  | ret u => exact hs
  | brk => exact hs
  | cont => exact hs
  | next =>
    obtain ⟨τ, H1, J, v, ev, z⟩ := hs
    rw [ev] at J
    rcases z with z | ⟨a, w, rfl, e, hu, z⟩
    · exact ⟨_, H1, J, z⟩
    · obtain ⟨o, I2⟩ := Inv.freeze J e hu
      exact ⟨_, _, I2, z o⟩
theorem s_setLcV {tg iter elt : Expr} {ifs : List Expr} {di : DI} {g : TG} {dg : DG} {dt : DT} {scope : Scope} {own : List (Str × Nat)} {spos : Pos} (i : Nat) {y : Str} {py : Pos} (hc : X.calm = true) (hN : X.N.Nodup) (hsw : swapsWith (.ListComp elt [⟨tg, iter, ifs, 0⟩] scope pos) (some (.Name y py)) spos.line X.env = pure true)
    (hi : PI X tg iter (lowI X.K W di)) (ok : BlkOk X.N X.env.scope scope own)
    (hg : ∀ (s : Shared) (H : Hp) (C : Addr) (cl : List (Str × Addr)) (fp : List Addr), PG (X.blk s H scope (compEnvC scope cl C X.env) fp) tg g) (ng : NG X.K g dg (own.map (·.2)))
    (ht : ∀ (s : Shared) (H : Hp) (C : Addr) (cl : List (Str × Addr)) (fp : List Addr), PTs (X.blk s H scope (compEnvC scope cl C X.env) fp) ifs (lowT X.K W0 dt))
    (he : ∀ (s : Shared) (H : Hp) (C : Addr) (cl : List (Str × Addr)) (fp : List Addr), PE (X.blk s H scope (compEnvC scope cl C X.env) fp) elt (low X.K W0 de))
    (hy : X.N[i]? = some y := by rfl) (hyl : X.env.scope.names.lookup y = some .local := by rfl) (hs : ∀ x, foldedSetIterable iter X.env x = pure x := by intro _; rfl) :
    PS X (.Assign [.Name y py] (.ListComp elt [⟨tg, iter, ifs, 0⟩] scope pos) spos) (lowS X.K W (dAsg (dFrz (dLc di dg dt de (own.map (·.2)))) (gN i))) := psi (ps_fzSet (ps_setLc hc hN hy hyl hsw hi ok hg ht he hs) hN hy) fun D σ H ⟨ρ, S, Dh, hσ, hS, h, k⟩ => by
  exact low_lc ng σ H _ ⟨ρ, S, _, _, hσ, hS, h, fun d S1 v H1 q t r a => ⟨v, rfl, lk_frzD r a q fun d2 S2 v2 H2 q2 t2 r2 a2 => k.nx _ S2 _ H2 q2 (t.trans t2) ((hσ.mono (t.trans t2)).set i r2) a2⟩, k.lx hσ⟩
end
theorem ot_nil {K : PySem.W.Frag} : ∀ C ∈ ([] : List Addr), OwnT K C := fun _ h => by cases h
theorem ot_own {K : PySem.W.Frag} {C : Addr} {cs : List Addr} (h : OwnT K C) (r : ∀ C ∈ cs, OwnT K C) : ∀ D ∈ C :: cs, OwnT K D := fun D q => by
  rcases List.mem_cons.mp q with rfl | q
  · exact h
  · exact r D q
theorem ot_nil2 {K : PySem.W.Frag} : ∀ p ∈ ([] : List (Addr × Addr × Bool)), PySem.W.kitOne K (.ref p.1) (.ref p.2.1) = some p.2.2 := fun _ h => by cases h
theorem ot_sub {K : PySem.W.Frag} {C D : Addr} {b : Bool} {cs : List (Addr × Addr × Bool)} (h : PySem.W.kitOne K (.ref C) (.ref D) = some b) (r : ∀ p ∈ cs, PySem.W.kitOne K (.ref p.1) (.ref p.2.1) = some p.2.2) : ∀ p ∈ (C, D, b) :: cs, PySem.W.kitOne K (.ref p.1) (.ref p.2.1) = some p.2.2 := fun p q => by
  rcases List.mem_cons.mp q with rfl | q
  · exact h
  · exact r p q
theorem kit_self {K : PySem.W.Frag} {C : Addr} : PySem.W.kitOne K (.ref C) (.ref C) = some true := by
  unfold PySem.W.kitOne
  rw [if_pos (by simp)]
theorem nb6 {K : PySem.W.Frag} {C : Addr} (h1 : PySem.W.mroIn K C (.type "int") = some false) (h2 : PySem.W.mroIn K C (.type "bool") = some false) (h3 : PySem.W.mroIn K C (.type "str") = some false) (h4 : PySem.W.mroIn K C (.type "tuple") = some false)
    (h5 : PySem.W.mroIn K C (.type "list") = some false) (h6 : PySem.W.mroIn K C (.type "dict") = some false) : ∀ n ∈ tyNames, PySem.W.mroIn K C (.type n) = some false := by
  intro n hn
  simp only [tyNames, List.mem_cons, List.not_mem_nil, or_false] at hn
  rcases hn with rfl | rfl | rfl | rfl | rfl | rfl <;> assumption
end VD

/-! fields of the program's classes, printed by cls.py -/
namespace VD
open PySem PySem.Spec PyProof.Rows L2
theorem ex_one {C : Addr} {s : SpD} {P : SpD → Prop} : (∃ sp, (C, sp) ∈ [(C, s)] ∧ P sp) = P s := propext ⟨fun ⟨sp, h, p⟩ => by rw [List.mem_singleton] at h; cases h; exact p, fun p => ⟨s, List.mem_singleton.mpr rfl, p⟩⟩
theorem mem_one {C : Addr} : (C ∈ [C]) = True := eq_true (by simp)
theorem mem_fst {C : Addr} {cs : List Addr} : (C ∈ C :: cs) = True := eq_true (by simp)
def o_Disk (d0 d1 : Dv) : List (Str × Dv) := [(Str.ofString "rows", d0), (Str.ofString "lasting", d1)]
def v_Disk (A : Ad) (d0 d1 : Dv) : Dv := .obj A.Disk ((o_Disk d0 d1).map (·.1)) ((o_Disk d0 d1).map (·.2))
theorem i_Disk {A : Ad} {d0 d1 : Dv} {S : Sto} {R : Addr → List Str → List Dv → Prop} : insOf (v_Disk A d0 d1) S R = R A.Disk ((o_Disk d0 d1).map (·.1)) ((o_Disk d0 d1).map (·.2)) := rfl
theorem l_Disk {d0 d1 : Dv} : ((o_Disk d0 d1).length < 1000) = True := eq_true (by show 2 < 1000; decide)
theorem h_Disk_write {d0 d1 : Dv} : (getF (Str.ofString "write") ((o_Disk d0 d1).map (·.1)) ((o_Disk d0 d1).map (·.2)) = none) = True := eq_true rfl
theorem h_Disk_sync {d0 d1 : Dv} : (getF (Str.ofString "sync") ((o_Disk d0 d1).map (·.1)) ((o_Disk d0 d1).map (·.2)) = none) = True := eq_true rfl
theorem h_Disk_blocks {d0 d1 : Dv} : (getF (Str.ofString "blocks") ((o_Disk d0 d1).map (·.1)) ((o_Disk d0 d1).map (·.2)) = none) = True := eq_true rfl
theorem h_Disk_synced {d0 d1 : Dv} : (getF (Str.ofString "synced") ((o_Disk d0 d1).map (·.1)) ((o_Disk d0 d1).map (·.2)) = none) = True := eq_true rfl
theorem h_Disk_cut {d0 d1 : Dv} : (getF (Str.ofString "cut") ((o_Disk d0 d1).map (·.1)) ((o_Disk d0 d1).map (·.2)) = none) = True := eq_true rfl
theorem h_Disk_drop {d0 d1 : Dv} : (getF (Str.ofString "drop") ((o_Disk d0 d1).map (·.1)) ((o_Disk d0 d1).map (·.2)) = none) = True := eq_true rfl
theorem h_Disk_copy {d0 d1 : Dv} : (getF (Str.ofString "copy") ((o_Disk d0 d1).map (·.1)) ((o_Disk d0 d1).map (·.2)) = none) = True := eq_true rfl
theorem g_Disk_rows {d0 d1 : Dv} : getF (Str.ofString "rows") ((o_Disk d0 d1).map (·.1)) ((o_Disk d0 d1).map (·.2)) = some d0 := rfl
theorem p_Disk_rows {d0 d1 x : Dv} : putFD (Str.ofString "rows") x (o_Disk d0 d1) = o_Disk x d1 := rfl
theorem k_Disk_rows {d0 d1 : Dv} : (o_Disk d0 d1).lookup (Str.ofString "rows") = some d0 := rfl
theorem n_Disk_rows {x : Dv} : putFD (Str.ofString "rows") x [] = [(Str.ofString "rows", x)] := rfl
theorem g_Disk_lasting {d0 d1 : Dv} : getF (Str.ofString "lasting") ((o_Disk d0 d1).map (·.1)) ((o_Disk d0 d1).map (·.2)) = some d1 := rfl
theorem p_Disk_lasting {d0 d1 x : Dv} : putFD (Str.ofString "lasting") x (o_Disk d0 d1) = o_Disk d0 x := rfl
theorem k_Disk_lasting {d0 d1 : Dv} : (o_Disk d0 d1).lookup (Str.ofString "lasting") = some d1 := rfl
theorem n_Disk_lasting {d0 x : Dv} : putFD (Str.ofString "lasting") x [(Str.ofString "rows", d0)] = o_Disk d0 x := rfl
end VD

namespace VD
open PySem PySem.Spec PyProof.Rows L2
/-! ### try with clauses with and without names, in any order; each exception of the body is taken by one of them -/
abbrev MixL := List (Value × Option Nat × (Addr → Value → Option Addr → TS))
def wMix (K : PySem.W.Frag) (D : Ends) : MixL → WX
  | [] => fun _ _ _ _ => False
  | (c, o, ts) :: r => fun cls d σ H => ∃ b, PySem.W.exmOne K cls c = some b ∧ (b = true → ∀ a, H a = none → match o with
      | none => ts a cls d D σ H
      | some i => ts a cls d (offSlot i D) (σ.set i (some (.ref a))) H) ∧ (b = false → wMix K D r cls d σ H)
inductive MixOk (X : Cx) : List ExceptHandler → MixL → Prop
  | nil : MixOk X [] []
  | un {x : Str} {c : Value} {ts : Addr → Value → Option Addr → TS} {b₀ : Stmt} {su : List Stmt} {np p2 : Pos} {hds : List ExceptHandler} {l : MixL} (hc : Names X x c)
      (hsu : ∀ (a : Addr) (oe : Obj) (cls : Value) (d : Option Addr) (pn : List (Addr × Obj)), Zc cls d oe → (∃ vs, oe.data = .fields vs) → PSs (X.suite a ((a, oe) :: pn)) (b₀ :: su) (ts a cls d)) (r : MixOk X hds l) :
      MixOk X (.ExceptHandler (some (.Name x np)) none (b₀ :: su) p2 :: hds) ((c, none, ts) :: l)
  | nm {x n : Str} {c : Value} {i : Nat} {ts : Addr → Value → Option Addr → TS} {b₀ : Stmt} {su : List Stmt} {np p2 : Pos} {hds : List ExceptHandler} {l : MixL} (hc : Names X x c) (hi : X.N[i]? = some n) (hln : X.env.kindOf n = some .local)
      (hsu : ∀ (a : Addr) (oe : Obj) (cls : Value) (d : Option Addr) (pn : List (Addr × Obj)), Zc cls d oe → (∃ vs, oe.data = .fields vs) → PSs (X.suite a ((a, oe) :: pn)) (b₀ :: su) (ts a cls d)) (r : MixOk X hds l) :
      MixOk X (.ExceptHandler (some (.Name x np)) (some n) (b₀ :: su) p2 :: hds) ((c, some i, ts) :: l)
section
variable {X : Cx} {bd : List Stmt} {h₀ : ExceptHandler} {hds : List ExceptHandler} {l : MixL} {p1 : Pos} {tb : WX → TS}
theorem ps_mix (hs : X.stack = X.env :: X.outer) (hf : X.env.frame = some X.env.locals) (hN : X.N.Nodup)
    (hb : ∀ (W : WX) (pn : List (Addr × Obj)) (xe : Value → Shared → Prop), Takes (X.tr pn xe) W → PSs (X.tr pn xe) bd (tb W)) (hh : MixOk X (h₀ :: hds) l) :
    PS X (.Try bd (h₀ :: hds) [] [] p1) (fun D σ H => tb (wMix X.K D l) D σ H) := by
  refine ⟨fun pins s σ H D I start => wpAny_Try_except ?_⟩
  have ok := I.ok
  have frames : X.A.frames = some (X.env :: X.outer) := by rw [ok.frames, hs]
  let go : Value → Shared → Prop := fun e sa => wpAny (model X.prog X.w) X.A (noteFrame e X.env)
    (fun _ sb => wpAny (model X.prog X.w) X.A (setFlight e none) (fun _ sc => wpAny (model X.prog X.w) X.A (handleBy e X.env (h₀ :: hds)) (SP X pins D) X.xe sc) X.xe sb) X.xe sa
  have caught : Takes (X.tr (X.pn ++ pins) go) (wMix X.K D l) := by
    intro u sz q
    obtain ⟨a, B, sI, pins2, σ2, H2, cls, d, rfl, J0, nb, up, sky, na, os, ag, wish⟩ := q
    have J : Inv X pins σ2 H2 sI := J0.ofTry ok
    have sky2 : Sky B (X.env :: X.outer) a (Zc cls d) X.env.locals sz.heap := by rw [← hs]; exact sky
    show wpAny (model X.prog X.w) X.A (noteFrame (.ref a) X.env) _ _ _
    refine Sky.land Zc.steady frames hf sky2 fun g fly up2 => ?_
    have J1 : Inv X pins σ2 H2 { sz with heap := g } := J.landed nb fly.1 (up.trans up2) os ag
    obtain ⟨o1, v1, there1, z1, dat1⟩ := fly.there
    have far := no_frame fly.2.2.1 there1 dat1
    have notL : a ≠ X.env.locals := fun z => far (List.mem_filterMap.mpr ⟨X.env, List.mem_cons_self, by rw [hf, z]⟩)
    have notF : a ∉ X.fs := fun hm => by
      obtain ⟨e, he, w⟩ := List.mem_filterMap.mp hm
      exact far (List.mem_filterMap.mpr ⟨e, List.mem_cons_of_mem _ he, w⟩)
    have S1 := J1.suite there1 dat1 na notL notF
    have typ : PySem.W.Looks (model X.prog X.w) g (typeOf (.ref a)) cls := fun A Q E sq keep w => wpAny_typeOf_ref (keep _ _ there1) (by rw [z1.1]; exact w)
    have named : ∀ {x : Str} {c : Value} {np : Pos} {Q : Value → Shared → Prop} {E : Value → Shared → Prop}, Names X x c → Q c { sz with heap := g } → wpAny (model X.prog X.w) (X.A.mark (some (.ref a))) (eval (.Name x np) X.env) Q E { sz with heap := g } := by
      intro x c np Q E hc w
      obtain ⟨hg, hd, hm | ⟨hm, hv, hn⟩⟩ := hc
      · exact ld_glob (X := X.suite a ((a, o1) :: (X.pn ++ pins))) S1 hg hm w hd
      · exact ld_blt (X := X.suite a ((a, o1) :: (X.pn ++ pins))) S1 hg hm hv w hn hd
    have walk : ∀ {hds' : List ExceptHandler} {l' : MixL}, MixOk X hds' l' → wMix X.K D l' cls d σ2 H2 → wpAny (model X.prog X.w) X.A (handleBy (.ref a) X.env hds') (SP X pins D) X.xe { sz with heap := g } := by
      intro hds' l' mk
      induction mk with
      | nil => exact fun w => w.elim
      | @un x c ts b₀ su np p2 hds2 l2 hc hsu r ih =>
        intro w
        obtain ⟨b, match_, yes, no⟩ := w
        have looks := PySem.W.exm_one (M := model X.prog X.w) (J1.kIn) typ match_
        refine wpAny_handleBy_cons (codeAny_handlers_test ?_) (by intro w; cases w)
        refine named hc (looks.here ?_)
        cases b with
        | false => exact ih (no rfl)
        | true =>
          refine codeAny_handlers_suite (HandSPX.lands_againZ fly fun g2 fly2 up3 => ?_)
          have J2 : Inv X pins σ2 H2 { sz with heap := g2 } := J.landed nb fly2.1 ((up.trans up2).trans up3) os ag
          obtain ⟨o2, v2, there2, z2, dat2⟩ := fly2.there
          have S2 := J2.suite there2 dat2 na notL notF
          refine wpAny_mono ((hsu a o2 cls d (X.pn ++ pins) z2 ⟨_, dat2⟩).run [] _ σ2 H2 D S2 (yes rfl a na)) (fun f s6 ends => ?_) (fun _ _ z => z.elim)
          cases f with
          | ret u => obtain ⟨v6, σ6, H6, S6, r6, w6⟩ := ends; exact ⟨_, _, _, S6.unsuite ok, r6, w6⟩
          | next => obtain ⟨σ6, H6, S6, w6⟩ := ends; exact ⟨_, _, S6.unsuite ok, w6⟩
          | brk => obtain ⟨σ6, H6, S6, w6⟩ := ends; exact ⟨_, _, S6.unsuite ok, w6⟩
          | cont => obtain ⟨σ6, H6, S6, w6⟩ := ends; exact ⟨_, _, S6.unsuite ok, w6⟩
      | @nm x n c i ts b₀ su np p2 hds2 l2 hc hi hln hsu r ih =>
        intro w
        obtain ⟨b, match_, yes, no⟩ := w
        have looks := PySem.W.exm_one (M := model X.prog X.w) (J1.kIn) typ match_
        refine wpAny_handleBy_cons (codeAny_handlers_test ?_) (by intro w; cases w)
        refine named hc (looks.here ?_)
        cases b with
        | false => exact ih (no rfl)
        | true =>
          refine codeAny_handlers_suite_as (HandSPX.lands_againZ fly fun g2 fly2 up3 => ?_)
          have J2 : Inv X pins σ2 H2 { sz with heap := g2 } := J.landed nb fly2.1 ((up.trans up2).trans up3) os ag
          obtain ⟨o2, v2, there2, z2, dat2⟩ := fly2.there
          have S2 := J2.suite there2 dat2 na notL notF
          refine store_ok (X := X.suite a ((a, o2) :: (X.pn ++ pins))) (v := .ref a) S2 hN hi (.inl hln) rfl (fun s5 S5 => ?_) (.inr hln)
          refine wpAny_mono ((hsu a o2 cls d (X.pn ++ pins) z2 ⟨_, dat2⟩).run [] s5 _ H2 _ S5 (yes rfl a na)) (fun f s6 ends => ?_) (fun _ _ z => z.elim)
          have drop : ∀ {σ6 : L2.St} {H6 : Hp} {Q : Shared → Prop}, Inv (X.suite a ((a, o2) :: (X.pn ++ pins))) [] σ6 H6 s6 → (∀ s7, Inv X pins (σ6.set i none) H6 s7 → Q s7) →
              wpAny (model X.prog X.w) X.A (do bindName X.env n .none; unbindBehindTheSuite X.env n p2) (fun _ s7 => Q s7) X.xe s6 := fun S6 w => gone_ok (S6.unsuite ok) hN hi hln w
          cases f with
          | ret u => obtain ⟨v6, σ6, H6, S6, r6, w6⟩ := ends; exact drop S6 fun s7 J7 => ⟨_, _, _, J7, r6, w6⟩
          | next => obtain ⟨σ6, H6, S6, w6⟩ := ends; exact drop S6 fun s7 J7 => ⟨_, _, J7, w6⟩
          | brk => obtain ⟨σ6, H6, S6, w6⟩ := ends; exact drop S6 fun s7 J7 => ⟨_, _, J7, w6⟩
          | cont => obtain ⟨σ6, H6, S6, w6⟩ := ends; exact drop S6 fun s7 J7 => ⟨_, _, J7, w6⟩
    exact walk hh wish
  refine wpAny_mono ((hb _ _ go caught).run [] s σ H D (I.toTry _) start) (fun f sf ends => ?_) (fun e se he => he)
  cases f with
  | ret u => obtain ⟨v, σ3, H3, J3, r, w⟩ := ends; exact ⟨v, σ3, H3, J3.ofTry ok, r, w⟩
  | next => obtain ⟨σ3, H3, J3, w⟩ := ends; exact wpAny_execs_nil ⟨σ3, H3, J3.ofTry ok, w⟩
  | brk => obtain ⟨σ3, H3, J3, w⟩ := ends; exact ⟨σ3, H3, J3.ofTry ok, w⟩
  | cont => obtain ⟨σ3, H3, J3, w⟩ := ends; exact ⟨σ3, H3, J3.ofTry ok, w⟩
end
/-! over plain data -/
abbrev MixD := List (List (Value × Bool) × Option Nat × (Addr → Value → Option Addr → DS))
def wMixD (D : DEnds) : MixD → Value → Option Addr → Rho → Sto → Prop
  | [] => fun _ _ _ _ => False
  | (tab, o, s) :: r => fun cls da ρ S => ∃ b, (cls, b) ∈ tab ∧ (b = true → ∀ a, S a = none → match o with
      | none => s a cls da { D with ex := fun _ _ _ _ => False } ρ S
      | some i => s a cls da (offD i D) (ρ.set i (some (.ref a))) S) ∧ (b = false → wMixD D r cls da ρ S)
def dMix (b : DS) (l : MixD) : DS := fun D ρ S => b { D with ex := wMixD D l } ρ S
inductive HdsM (X : Cx) : List ExceptHandler → MixD → MixL → Prop
  | nil : HdsM X [] [] []
  | un {x : Str} {c : Value} {s : Addr → Value → Option Addr → DS} {tab : List (Value × Bool)} {b₀ : Stmt} {su : List Stmt} {np p2 : Pos} {hds : List ExceptHandler} {l : MixD} {l' : MixL}
      (hc : Names X x c) (ht : ∀ p ∈ tab, PySem.W.exmOne X.K p.1 c = some p.2)
      (hsu : ∀ (a : Addr) (oe : Obj) (cls : Value) (d : Option Addr) (pn : List (Addr × Obj)), Zc cls d oe → (∃ vs, oe.data = .fields vs) → PSs (X.suite a ((a, oe) :: pn)) (b₀ :: su) (lowS X.K W0 (s a cls d))) (r : HdsM X hds l l') :
      HdsM X (.ExceptHandler (some (.Name x np)) none (b₀ :: su) p2 :: hds) ((tab, none, s) :: l) ((c, none, fun a cls d => lowS X.K W0 (s a cls d)) :: l')
  | nm {x n : Str} {c : Value} {i : Nat} {s : Addr → Value → Option Addr → DS} {tab : List (Value × Bool)} {b₀ : Stmt} {su : List Stmt} {np p2 : Pos} {hds : List ExceptHandler} {l : MixD} {l' : MixL}
      (hc : Names X x c) (ht : ∀ p ∈ tab, PySem.W.exmOne X.K p.1 c = some p.2)
      (hsu : ∀ (a : Addr) (oe : Obj) (cls : Value) (d : Option Addr) (pn : List (Addr × Obj)), Zc cls d oe → (∃ vs, oe.data = .fields vs) → PSs (X.suite a ((a, oe) :: pn)) (b₀ :: su) (lowS X.K W0 (s a cls d)))
      (r : HdsM X hds l l') (hi : X.N[i]? = some n := by rfl) (hln : X.env.kindOf n = some .local := by rfl) :
      HdsM X (.ExceptHandler (some (.Name x np)) (some n) (b₀ :: su) p2 :: hds) ((tab, some i, s) :: l) ((c, some i, fun a cls d => lowS X.K W0 (s a cls d)) :: l')
theorem HdsM.ok {X : Cx} {hds : List ExceptHandler} {l : MixD} {l' : MixL} (h : HdsM X hds l l') : MixOk X hds l' := by
  induction h with
  | nil => exact .nil
  | un hc ht hsu r ih => exact .un hc hsu ih
  | nm hc ht hsu r hi hln ih => exact .nm hc hi hln hsu ih
theorem HdsM.go {X : Cx} {W : WX} {H : Hp} {Dh : DEnds} {D : Ends} (k : LkS X.K W H Dh D) {hds : List ExceptHandler} {l : MixD} {l' : MixL} (h : HdsM X hds l l') :
    ∀ cls da, LkG X.K H (wMixD Dh l cls da) (wMix X.K D l' cls da) := by
  induction h with
  | nil => exact fun cls da ρ S σ' H' w => w.elim
  | un hc ht hsu r ih =>
    intro cls da ρ S σ' H' ⟨b, hb, hy, hn⟩ t rs a
    refine ⟨b, ht _ hb, fun e p hp => ⟨ρ, S, _, rs, a, hy e p (a.free hp), ⟨k.nx.mono t, k.rt.mono t, k.bk.mono t, k.ct.mono t, fun _ _ _ _ _ _ q => q.elim⟩⟩, fun e => ih cls da ρ S σ' H' (hn e) t rs a⟩
  | @nm x n c i s tab b₀ su np p2 hds l l' hc ht hsu r hi hln ih =>
    intro cls da ρ S σ' H' ⟨b, hb, hy, hn⟩ t rs a
    refine ⟨b, ht _ hb, fun e p hp => ⟨_, S, _, rs.set i (.ref p), a, hy e p (a.free hp), ⟨fun ρ2 S2 σ2 H2 q t2 r2 a2 => k.nx _ S2 _ H2 q (t.trans t2) (r2.setN i) a2, k.rt.mono t, fun ρ2 S2 σ2 H2 q t2 r2 a2 => k.bk _ S2 _ H2 q (t.trans t2) (r2.setN i) a2, fun ρ2 S2 σ2 H2 q t2 r2 a2 => k.ct _ S2 _ H2 q (t.trans t2) (r2.setN i) a2, fun _ _ _ _ _ _ q => q.elim⟩⟩,
      fun e => ih cls da ρ S σ' H' (hn e) t rs a⟩
theorem s_mix {X : Cx} {W : WX} {body : List Stmt} {h₀ : ExceptHandler} {hds : List ExceptHandler} {b : DS} {l : MixD} {l' : MixL} {pos : Pos} (hN : X.N.Nodup)
    (hb : ∀ (W' : WX) (pn : List (Addr × Obj)) (xe : Value → Shared → Prop), Takes (X.tr pn xe) W' → PSs (X.tr pn xe) body (lowS X.K W' b)) (hh : HdsM X (h₀ :: hds) l l')
    (hs : X.stack = X.env :: X.outer := by rfl) (hf : X.env.frame = some X.env.locals := by rfl) : PS X (.Try body (h₀ :: hds) [] [] pos) (lowS X.K W (dMix b l)) :=
  psi (ps_mix (tb := fun W' => lowS X.K W' b) hs hf hN hb hh.ok) fun D σ H ⟨ρ, S, Dh, hσ, hS, h, k⟩ =>
    ⟨ρ, S, { Dh with ex := wMixD Dh l }, hσ, hS, h, ⟨k.nx, k.rt, k.bk, k.ct, hh.go k⟩⟩
/-! isinstance of the caught exception -/
def clsV : Dv → Option Value
  | .ref C => some (.ref C)
  | .ty n => some (.type n)
  | _ => none
def rdIsE (a : Addr) (cls : Value) (da : Option Addr) (tab : List (Addr × Value × Bool)) : RDC := fun ds S Q => match ds with
  | [.ref x, c] => x = a ∧ ∃ D v b, cls = .ref D ∧ da = none ∧ clsV c = some v ∧ (D, v, b) ∈ tab ∧ Q (.bl b) S
  | _ => False
def rIsX (a : Addr) (cls : Value) (da : Option Addr) (tab : List (Addr × Value × Bool)) : List V → Hp → VK → Prop := fun xs H Q => ∃ D c cv b, cls = .ref D ∧ da = none ∧ (D, cv, b) ∈ tab ∧ xs = [.ref a, c] ∧ (∀ u, RelV c u → u = cv) ∧ Q (.bl b) H
theorem call_isX {X : Cx} {a : Addr} {oe : Obj} {pn : List (Addr × Obj)} {cls : Value} {da : Option Addr} {tab : List (Addr × Value × Bool)} (hC : ∀ t ∈ tab, ExcC X.K t.1 ∧ PySem.W.kitOne X.K (.ref t.1) t.2.1 = some t.2.2) (hz : Zc cls da oe) (hf : ∃ vs, oe.data = .fields vs) :
    CallR (X.suite a ((a, oe) :: pn)) (.builtin "isinstance") (rIsX a cls da tab) := by
  intro pins s σ H xs us Q I r h
  obtain ⟨D, c, cv, b, rfl, rfl, hm, rfl, hcv, q⟩ := h
  obtain ⟨g1, g2⟩ := hC _ hm
  exact call_isE (X := X) g1 hz hf pins s σ H _ us Q I r ⟨c, cv, b, rfl, hcv, g2, q⟩
theorem l_isE {K : PySem.W.Frag} {a : Addr} {cls : Value} {da : Option Addr} {tab : List (Addr × Value × Bool)} : LRC K (rIsX a cls da tab) (rdIsE a cls da tab) := by
  intro vs H ds S Qh Q r hS h k
  unfold rdIsE at h
  split at h
  · rename_i x c
    obtain ⟨rfl, D, v, b, e1, e2, e3, hm, q⟩ := h
    obtain ⟨v1, vs1, rfl, r1, r2⟩ := r.cons_i
    obtain ⟨v2, rfl, r3⟩ := one_i r2
    rw [r1.i_ref]
    refine ⟨D, v2, v, b, e1, e2, hm, rfl, fun u hu => ?_, k.now q (.bl _) hS⟩
    unfold clsV at e3
    split at e3
    · cases e3
      rw [r3.i_ref] at hu
      exact hu
    · cases e3
      rw [r3.i_ty] at hu
      exact hu
    · cases e3
  · exact h.elim
theorem isx_nil {K : PySem.W.Frag} : ∀ t ∈ ([] : List (Addr × Value × Bool)), ExcC K t.1 ∧ PySem.W.kitOne K (.ref t.1) t.2.1 = some t.2.2 := fun _ h => by cases h
theorem isx_cons {K : PySem.W.Frag} {D : Addr} {v : Value} {b : Bool} {tab : List (Addr × Value × Bool)} (h1 : ExcC K D) (h2 : PySem.W.kitOne K (.ref D) v = some b) (r : ∀ t ∈ tab, ExcC K t.1 ∧ PySem.W.kitOne K (.ref t.1) t.2.1 = some t.2.2) :
    ∀ t ∈ (D, v, b) :: tab, ExcC K t.1 ∧ PySem.W.kitOne K (.ref t.1) t.2.1 = some t.2.2 := fun t ht => by
  rcases List.mem_cons.mp ht with rfl | ht
  · exact ⟨h1, h2⟩
  · exact r t ht
theorem bt_ValueError : bootBuiltins "ValueError" = some (.type "ValueError") := by decide +kernel
theorem RoomG.u65 {k : Nat} {A : Around} (h : RoomG k A) : A.units + 65 < cLine := by have := h.r.un; omega
theorem RoomG.u80 {k : Nat} {A : Around} (h : RoomG k A) : A.units + 80 < cLine := by have := h.r.un; omega
end VD

namespace VD
open PySem PySem.Spec PySem.Calls PyProof.Rows L2
/-! ### enumerate over a tuple -/
set_option maxHeartbeats 1000000 in
theorem meets_enum1 {v : Value} {o : Obj} {B : Heap → Prop} (b : Begins v o B) :
    Meets (Builtin.«enumerate.__new__» ⟨[.type "enumerate", v], []⟩) (fun _ R s => B s.heap ∧
      R (.ok (.ret (.ref (s.heap.push o).objs.size))) { s with heap := (s.heap.push o).push { cls := .type "enumerate", data := .fields #[.none, .bool false, .ref s.heap.objs.size, rawInt 0, .none, .none] } }) :=
  .of_wp fun prog w A R s h => by
    obtain ⟨hp, g, d, tk, os⟩ := s
    obtain ⟨h1, h⟩ := h
    have hsub := sub_enumerate
    have it : ∀ {A' : Around} {E : Value → Shared → Prop} {Q : Value → Shared → Prop}, Q (.ref hp.objs.size) ⟨hp.push o, g, d, tk, os⟩ → wpAny (model prog w) A' (pyIter v) Q E ⟨hp, g, d, tk, os⟩ :=
      fun q => b.iter prog w _ _ ⟨hp, g, d, tk, os⟩ _ h1 q
    wp_walk using it
    refine wpAny_stack_any fun st => wpAny_pure ?_
    split
    · rename_i c _ _ _ _ _
      cases (c == Value.type "enumerate") <;> (wp_walk using it; exact ⟨_, rfl, h⟩)
    · wp_walk using it
      exact ⟨_, rfl, h⟩
section
variable {prog : Program} {w : World} {A : Around} {E : Value → Shared → Prop} {s : Shared}
theorem call_enum1 {v : Value} {o : Obj} {B : Heap → Prop} {Q : Value → Shared → Prop} (b : Begins v o B) (h1 : B s.heap)
    (h : ∀ h', IsEnum h' (s.heap.objs.size + 1) s.heap.objs.size 0 .none → h'.get? s.heap.objs.size = some o → (∀ c o', s.heap.get? c = some o' → h'.get? c = some o') → Q (.ref (s.heap.objs.size + 1)) { s with heap := h' }) :
    wpAny (model prog w) A (call (.type "enumerate") [v]) Q E s := by
  refine callType_new F.called_enumerate (by decide) (F.typeCall_enumerate_1 _) (F.newCall_enumerate_1 _) (fun obj => F.args_object_init_2 obj _) F.entry_enumerate_new (meets_enum1 b) ⟨h1, ?_⟩
  have hz : (s.heap.push o).objs.size = s.heap.objs.size + 1 := Heap.size_push ..
  show _ ∧ _
  rw [hz]
  have he : IsEnum ((s.heap.push o).push { cls := .type "enumerate", data := .fields #[.none, .bool false, .ref s.heap.objs.size, rawInt 0, .none, .none] }) (s.heap.objs.size + 1) s.heap.objs.size 0 .none := by
    have := Heap.get?_push_size (s.heap.push o) (o := { cls := .type "enumerate", data := .fields #[.none, .bool false, .ref s.heap.objs.size, rawInt 0, .none, .none] }) rfl
    rw [hz] at this; exact this
  exact ⟨⟨_, he, rfl⟩, h _ he (Heap.get?_push_of_some _ (Heap.get?_push_size _ b.free)) fun c o' x => Heap.get?_push_of_some _ (Heap.get?_push_of_some _ x)⟩
end
def IteT (K : PySem.W.Frag) (a : Addr) : It :=
  ⟨fun i H => ∃ (xs : List V) (x : V), SqT K H a xs ∧ xs[i]? = some x, fun i H v H' => ∃ T x, v = .ref T ∧ H T = none ∧ H' = upd H T (.tup [.int (i : Nat), x]) ∧ ∀ xs, SqT K H a xs → xs[i]? = some x, fun i H => ∃ xs : List V, SqT K H a xs ∧ xs.length = i⟩
theorem turn_enumT {P : Program} {w : World} {K : PySem.W.Frag} {elts : List Expr} {kk : Nat} {tpos : Pos} (a e it : Addr) :
    Turn P w K (.Tuple elts kk tpos) (IteT K a) [e, it] e (fun i h => (∃ old, IsEnum h e it ((i : Nat) : Int) old) ∧ h.IsTupleIter it a i ∧ e ≠ it ∧ e ≠ a ∧ a ≠ it) where
  mem := by simp
  obj := fun i h st b hb => by
    obtain ⟨⟨old, he⟩, ⟨o, ho, hc, hd⟩, _⟩ := st
    have e' : b = e ∨ b = it := by simpa using hb
    rcases e' with z | z
    · rw [z]; exact ⟨_, he, fun v q => nomatch q⟩
    · rw [z]; exact ⟨o, ho, fun v q => by rw [hd] at q; cases q⟩
  keep := fun i h h' st k => let ⟨⟨old, he⟩, hi, r⟩ := st; ⟨⟨old, k e (by simp) _ he⟩, hi.at fun o q => k it (by simp) o q, r⟩
  item := by
    intro X hP hw hK hc i pins s σ H E I hf st hg
    subst hP hw hK
    obtain ⟨⟨old, he⟩, hit, hne, hea, hai⟩ := st
    obtain ⟨xs, x, hq, hx⟩ := hg
    obtain ⟨its, rv, p, hz⟩ := I.tuple hq
    obtain ⟨u, hu, ru⟩ := rv.get hx
    have hel : e < s.heap.objs.size := Heap.lt_size he
    have hil : it < s.heap.objs.size := by obtain ⟨_, q, _⟩ := hit; exact Heap.lt_size q
    have D := Draws.tuple (prog := X.prog) (w := X.w) (A := X.A.in1) (by have := I.ok.hd hc; simp [this]) it a hai its.toArray
    refine wpAny_pyNext_enum_itemD D he ⟨hit, p⟩ (by rw [List.size_toArray]; exact (List.getElem?_eq_some_iff.mp hu).1) hne (by simp [hne, hea]) fun y h' tk hy ho hst hT hsz hk => ?_
    have ey : y = u := by
      have : its.toArray[i]? = some y := hy
      rw [List.getElem?_toArray, hu] at this
      exact (Option.some.inj this).symm
    subst ey
    refine ⟨_, rfl, wpAny_letOwnedTupleGo_enum (s := { s with heap := h', toks := tk + 1 }) ho fun h'' he' sb => ?_⟩
    have hT2 : h''.get? s.heap.objs.size = some { cls := .type "tuple", data := .seq #[.int i tk, y] } := (sb.2 _ (Nat.ne_of_gt hel)).trans hT
    have new : ObjOk X.prog X.w (upd H s.heap.objs.size (.tup [.int (i : Nat), x])) h'' s.heap.objs.size (.tup [.int (i : Nat), x]) :=
      ⟨by show 2 ≤ sizeLine; decide, [.int i tk, y], .cons ⟨_, rfl⟩ (.cons ru .nil), ⟨_, hT2, rfl, _, rfl⟩⟩
    have I1 : Inv X pins σ (upd H s.heap.objs.size (.tup [.int (i : Nat), x])) { s with heap := h'', toks := tk + 1 } :=
      I.turnedNew (ch := [e, it]) (fun b ob hb q => (sb.2 b (fun z => hb (by simp [z]))).trans (hk b ob (fun z => hb (by simp [z])) (fun z => hb (by simp [z])) q)) hf (Nat.le_refl _) new
    refine ⟨.ref s.heap.objs.size, _, I1, rfl, ⟨_, x, rfl, I.hok.fresh (Nat.le_refl _), rfl, fun ys hy => ?_⟩, ⟨⟨y, ?_⟩, hst.1.at fun o q => (sb.2 it (Ne.symm hne)).trans q, hne, hea, hai⟩, fun b hb => ?_⟩
    · rw [I.tuple_inj hy hq]; exact hx
    · have e1 : ((i + 1 : Nat) : Int) = (i : Int) + 1 := by omega
      rw [e1]; exact he'
    · have hb' : b < s.heap.objs.size := by
        have e' : b = e ∨ b = it := by simpa using hb
        rcases e' with z | z
        · rw [z]; exact hel
        · rw [z]; exact hil
      rw [upd_ne (Nat.ne_of_lt hb')]
      exact (hf b hb).1
  done := by
    intro X hP hw hK hc i pins s σ H E I hf st hg
    subst hP hw hK
    obtain ⟨⟨old, he⟩, hit, hne, hea, hai⟩ := st
    obtain ⟨xs, hq, hx⟩ := hg
    obtain ⟨its, rv, p, hz⟩ := I.tuple hq
    obtain ⟨f0, f1, f2, f3, f4, f5⟩ := hf it (by simp)
    have hl := rv.length
    have D := Draws.tuple (prog := X.prog) (w := X.w) (A := X.A.in1) (by have := I.ok.hd hc; simp [this]) it a hai its.toArray
    have hn : its.toArray.size = i := by rw [List.size_toArray, ← hl]; exact hx
    exact wpAny_pyNext_enum_endD D he (by rw [hn]; exact ⟨hit, p⟩) fun h' eb => ⟨rfl, I.turned (t' := s.toks) (fun b o hb q => eb b o hb q) f0 f1 f3 f4 f5⟩
  self := fun A i s Q E st h => let ⟨⟨_, he⟩, _⟩ := st; wpAny_pyIter_enum he h
def iEnumB (K : PySem.W.Frag) (ta : TA) : TI := fun σ H R => ta σ H fun vs H1 => (∃ a xs, vs = [.ref a] ∧ SqL K H1 a xs ∧ R (Ite K a) H1) ∨ ∃ a xs, vs = [.ref a] ∧ SqT K H1 a xs ∧ R (IteT K a) H1
theorem pi_enumB {X : Cx} {e : Expr} {ta : TA} {p pos tpos : Pos} {elts : List Expr} {kk : Nat} (hg : Gl X "enumerate") (hm : X.mg "enumerate" = none) (ha : PA X [e] ta) (hs : starEach [e] X.env = [(false, eval e X.env)] := by rfl) :
    PI X (.Tuple elts kk tpos) (.Call (.Name "enumerate" p) [e] [] pos) (iEnumB X.K ta) := by
  refine ⟨fun pins s σ H R I h => ?_⟩
  refine Call_ (ld_blt I hg hm boot_enumerate (PyProof.Rows.callWith_type1 (thn (ha.run pos pins s σ H _ I h) fun us s1 ⟨vs, H1, I1, r1, q1⟩ => ?_) hs rfl))
  have two : ∀ b ∈ [s1.heap.objs.size + 1, s1.heap.objs.size], s1.heap.objs.size ≤ b := fun b hb => by
    have e' : b = s1.heap.objs.size + 1 ∨ b = s1.heap.objs.size := by simpa using hb
    omega
  rcases q1 with ⟨a, xs, rfl, hq, q⟩ | ⟨a, xs, rfl, hq, q⟩
  · cases r1 with
    | cons r rr =>
      cases rr
      cases r
      obtain ⟨its, rv, p', hz⟩ := I1.list hq
      refine call_enumerate_list p'.isList fun h' he hit hsz hk => wpAny_pyIter_enum he ?_
      have I2 : Inv X pins σ H1 { s1 with heap := h' } := I1.kept (t' := s1.toks) hk
      exact ⟨s1.heap.objs.size + 1, [s1.heap.objs.size + 1, s1.heap.objs.size], _, _, H1, rfl, I2, turn_enum a (s1.heap.objs.size + 1) s1.heap.objs.size, ⟨⟨.none, he⟩, hit, Nat.succ_ne_self _⟩, fun b hb => I1.fpOk (two b hb) (I1.hok.fresh (two b hb)), q⟩
  · cases r1 with
    | cons r rr =>
      cases rr
      cases r
      obtain ⟨its, rv, p', hz⟩ := I1.tuple hq
      have hal : a < s1.heap.objs.size := by obtain ⟨o, ho, _⟩ := p'; exact Heap.lt_size ho
      refine call_enum1 (begins_tuple a its.toArray) p' fun h' he hit hk => wpAny_pyIter_enum he ?_
      have I2 : Inv X pins σ H1 { s1 with heap := h' } := I1.kept (t' := s1.toks) hk
      exact ⟨s1.heap.objs.size + 1, [s1.heap.objs.size + 1, s1.heap.objs.size], _, _, H1, rfl, I2, turn_enumT a (s1.heap.objs.size + 1) s1.heap.objs.size, ⟨⟨.none, he⟩, ⟨_, hit, rfl, rfl⟩, Nat.succ_ne_self _, Nat.ne_of_gt (Nat.lt_succ_of_lt hal), Nat.ne_of_lt hal⟩, fun b hb => I1.fpOk (two b hb) (I1.hok.fresh (two b hb)), q⟩
theorem it_enumT {K : PySem.W.Frag} {H0 : Hp} {a : Addr} {xs : List Dv} (r1 : Rep K H0 (.ref a) (.tup xs)) : ItD K H0 (IteT K a) (counted xs) (fun _ => True) := by
  refine ⟨fun i H S z t ha st hz => ?_, fun H S t ha st => ?_⟩
  · obtain ⟨x, ex, rfl⟩ := counted_get hz
    obtain ⟨p, ws, e1, hl1, l1⟩ := (r1.mono t).i_tup
    cases e1
    obtain ⟨v, ev, rv⟩ := l1.get ex
    refine ⟨⟨ws, v, hl1, ev⟩, fun q H' ⟨T, x', e1, e2, e3, e4⟩ => ?_⟩
    subst e1 e3
    have g1 := e4 ws hl1
    rw [ev] at g1
    cases g1
    exact ⟨Tk.new e2, rep2 e2 (.int _) rv, ha.tup e2⟩
  · obtain ⟨p, ws, e1, hl1, l1⟩ := (r1.mono t).i_tup
    cases e1
    refine ⟨ws, hl1, ?_⟩
    rw [counted_len, ← l1.length]
def iEnumAD (das : DA) : DI := fun ρ S R X => das ρ S (fun ds S1 => match ds with
  | [.tup xs] => R (counted xs) (fun _ => True) S1
  | [d] => lstOf d S1 fun xs => R (counted xs) (fun S => isL d S xs) S1
  | _ => False) X
theorem i_enumA {X : Cx} {W : WX} {e : Expr} {das : DA} {p pos tpos : Pos} {elts : List Expr} {kk : Nat} (hm : X.mg "enumerate" = none) (ha : PA X [e] (lowA X.K W das)) (hg : Gl X "enumerate" := by rfl) (hs : starEach [e] X.env = [(false, eval e X.env)] := by rfl) :
    PI X (.Tuple elts kk tpos) (.Call (.Name "enumerate" p) [e] [] pos) (lowI X.K W (iEnumAD das)) := pii (pi_enumB hg hm ha hs) fun σ H R ⟨ρ, S, Rh, Xh, hσ, hS, h, k, x⟩ => by
  refine ⟨ρ, S, _, Xh, hσ, hS, h, fun ds S1 vs H1 q t r a => ?_, x⟩
  dsimp only at q
  split at q
  · obtain ⟨v, rfl, r1⟩ := one_i r
    obtain ⟨c, us, rfl, hc, lc⟩ := r1.i_tup
    exact .inr ⟨c, us, rfl, hc, k _ _ S1 _ H1 q t a (it_enumT r1)⟩
  · obtain ⟨v, rfl, r1⟩ := one_i r
    obtain ⟨xs, s1, q⟩ := lstOf_ex q
    obtain ⟨c, us, rfl, hc, lc⟩ := lst_at r1 (Tk.refl H1) a s1
    exact .inl ⟨c, us, rfl, hc, k _ _ S1 _ H1 q t a (it_enumL r1)⟩
  · exact q.elim
end VD

/-! sets of ints, made of a list or a tuple, sorted -/
namespace VD
open PySem PySem.Spec PySem.Calls PyProof.Rows L2
section
variable {P : Program} {w : World} {A : Around} {E : Value → Shared → Prop} {s : Shared}
abbrev s0Obj (w : World) : Obj := { cls := .type "set", dict := none, data := .set #[] 0 (.fresh 0 0 (!w.params.followText "set-order")) }
abbrev sMid (w : World) (s : Shared) : Shared := { s with heap := s.heap.push (s0Obj w) }
set_option maxHeartbeats 8000000 in
theorem call_set_lstI {l : Addr} {items : Array Value} (ns : List Int) {Q : Value → Shared → Prop} (hh : A.handled = none) (hl : s.heap.IsList l items) (hit : IntsAre items.toList ns) (hb : ns.length + 1 < scanBound)
    (h : ∀ (hp2 : Heap) (tk c : Nat), SetR w hp2 s.heap.objs.size (fun j => decide (j ∈ ns)) c → c ≤ ns.length → (∀ b o, s.heap.get? b = some o → hp2.get? b = some o) → Q (.ref s.heap.objs.size) { s with heap := hp2, toks := tk }) :
    wpAny (model P w) A (call (Value.type "set") [Value.ref l]) Q E s := by
  have hSize : items.size = ns.length := by
    have q := IntsAre.length hit
    rw [Array.length_toList] at q
    exact q
  obtain ⟨c, tl, hMr⟩ := F.called_set.mro
  have hMd := F.called_set.made
  have hSb := F.called_set.sub; refine wpAny_call (codeAny_of_tree ?_); show wpAny _ _ (callAny (.type "set") _) _ _ _; refine wpAny_pure ⟨Code.quiet_builtin _ (by decide +kernel), codeAny_builtin F.entry_type_call ?_⟩; rw [Around.under_plain (weight_type_call_type "set" [.ref l] []) rfl]; have h1 := F.called_set.notType; have h2 := F.called_set.canCreate
  have hTc := F.typeCall_set_1 (.ref l); repeat (any_goals (first | assumption | wp_step))
  refine codeAny_mono (code_set_led1 (.ref l) (E := E) (Q₁ := fun obj ss1 => obj = .ref s.heap.objs.size ∧ ss1 = (sMid w s)) ⟨rfl, rfl⟩) fun r ss1 hr => ?_
  cases r with
  | error e => exact hr
  | ok fl =>
    cases fl with
    | ret obj =>
      obtain ⟨rfl, rfl⟩ := hr
      have hSet : (s.heap.push (s0Obj w)).get? s.heap.objs.size = some (s0Obj w) := Heap.get?_push_size _ rfl
      have hTy : Shared.TypeIs (sMid w s) (.ref s.heap.objs.size) "set" := ⟨_, hSet, rfl⟩
      have hLook := F.called_set.init.lookup
      have hBnd := F.called_set.init.bind (.ref s.heap.objs.size); repeat (any_goals (first | assumption | wp_step))
      refine codeAny_mono (codeAny_call_builtin (R := wants (fun r ss2 => r = .none ∧ ∃ hp2 tk c, ss2 = { s with heap := hp2, toks := tk } ∧ SetR w hp2 s.heap.objs.size (fun j => decide (j ∈ ns)) c ∧ c ≤ ns.length ∧
          (∀ b o, s.heap.get? b = some o → hp2.get? b = some o)) E) F.called_set.init.plain F.entry_set_init (check_set_init_1 hTy ?_)) fun rr2 ss2 hrr => ?_
      · obtain ⟨ol, hObj, hC1, nl, hD1⟩ := hl
        rcases ol with ⟨ocls, odict, odata, oslots⟩
        simp only at hC1 hD1
        subst hC1; subst hD1
        have hol' : (s.heap.push (s0Obj w)).get? l = some { cls := .type "list", dict := odict, data := .seq items nl, slots := oslots } := Heap.get?_push_of_some _ hObj
        have hU1 := F.sub_list_set
        have hU2 := F.sub_list_frozenset
        have hNd : (Value.type "list" == Value.type "dict") = false := by decide
        have hl1 : (s.heap.push (s0Obj w)).IsList l items := ⟨_, hol', rfl, nl, rfl⟩; unfold Builtin.«set.__init__» noKeywords Builtin.Frozenset.updateFrom
        generalize hPi : pyIter = PI
        wp_walk
        subst hPi
        refine wpAny_pyIter_list hl1 ?_; refine wpAny_bind (wpAny_runValue ?_)
        have hLs : l < s.heap.objs.size := Heap.lt_size hObj
        have hH3 : A.in1.in1.in1.handled = none := by simp [hh]
        have hZ1 : (s.heap.push (s0Obj w)).objs.size = s.heap.objs.size + 1 := Heap.size_push ..
        have hNeI : l ≠ (s.heap.push (s0Obj w)).objs.size := by
          rw [Heap.size_push]; exact Nat.ne_of_lt (Nat.lt_succ_of_lt hLs)
        have hSf2 : s.heap.objs.size ∉ [(s.heap.push (s0Obj w)).objs.size, l] := by
          rw [Heap.size_push]; simp only [List.mem_cons, List.not_mem_nil, or_false, not_or]
          exact ⟨Nat.ne_of_lt (Nat.lt_succ_self _), Nat.ne_of_gt hLs⟩
        have hVal2 : ∀ (i : Nat) (v : Value), items[i]? = some v → ∃ k t, ns[i]? = some k ∧ v = .int k t := fun i v hv => by
          have hi : i < ns.length := by rw [← hSize]; exact (Array.getElem?_eq_some_iff.mp hv).1
          have ⟨t, e⟩ := PyProof.Rows.IntsAre.int_at hit i v (by rw [Array.getElem?_toList]; exact hv)
          exact ⟨ns[i], t, List.getElem?_eq_getElem hi, by rw [e, List.getD_eq_getElem?_getD, List.getElem?_eq_getElem hi] <;> rfl⟩
        refine set_update_ints ((Walks.list hH3 _ l hNeI items).toS) s.heap.objs.size
          hSf2 ns hSize hb hVal2 (items.size - 0) 0 _ (by omega) (Nat.zero_le _) ⟨⟨_, Heap.get?_push_size _ rfl, rfl, rfl⟩, (hl1.push _)⟩ ?hS0 ?hR
        case hS0 =>
          have hGet2 : ((s.heap.push (s0Obj w)).push { cls := .type "list_iterator", data := .fields #[.ref l, .int 0 0] }).get? s.heap.objs.size
              = some (s0Obj w) := Heap.get?_push_of_some _ hSet
          exact ⟨0, Nat.le_refl 0, setR_new_at hGet2⟩
        case hR =>
          intro sq2 cq2 hm hc3 hS3
          obtain ⟨hp2, g2, dr2, tk3, os2⟩ := sq2; have eg : g2 = s.gens := hm.gens
          have ed : dr2 = s.drawn := hm.drawn
          have eo : os2 = s.os := hm.os
          subst eg; subst ed; subst eo
          show wpAny _ _ _ _ _ _
          refine wpAny_pure ?_; show wpAny _ _ (ret Value.none) _ _ _
          rw [hSize] at hc3
          refine wpAny_pure ⟨rfl, hp2, tk3, cq2, rfl, hS3, hc3, fun b o e => ?_⟩
          have hbA : b < s.heap.objs.size := Heap.lt_size e
          have hbB : b ≠ s.heap.objs.size := Nat.ne_of_lt hbA
          have hbC : b ≠ (s.heap.push (s0Obj w)).objs.size := by
            rw [Heap.size_push]; exact Nat.ne_of_lt (Nat.lt_succ_of_lt hbA)
          exact hm.heap b o (by simp only [List.mem_cons, List.mem_singleton, List.not_mem_nil, or_false, not_or]; exact ⟨hbB, hbC⟩) (Heap.get?_push_of_some _ (Heap.get?_push_of_some _ e))
      · cases rr2 with
        | error e => exact hrr
        | ok fl2 =>
          cases fl2 with
          | ret r =>
            obtain ⟨rfl, hp2, tk, cq2, rfl, hS3, hc3, hk3⟩ := hrr; repeat (any_goals (first | assumption | wp_step))
            exact h _ _ _ hS3 hc3 hk3
          | _ => exact hrr.elim
    | _ => exact hr.elim
end
/-- set(xs) of a list or a tuple of ints -/
def rSetLT (K : PySem.W.Frag) (w : World) : List V → Hp → VK → Prop := fun vs H Q => ∃ (a : Addr) (ns : List Int), vs = [V.ref a] ∧ (SqL K H a (ns.map V.int) ∨ SqT K H a (ns.map V.int)) ∧ ns.length ≤ 1000 ∧ ∀ p c, H p = none → c ≤ ns.length → Q (.ref p) (upd H p (SetO w p (fun j => decide (j ∈ ns)) c))
section
variable {X : Cx}
theorem cr_setLT (hc : X.calm = true) : CallR X (.type "set") (rSetLT X.K X.w) := by
  intro pins s σ H vs us Q I r h
  obtain ⟨a, ns, rfl, ha, hl, q⟩ := h
  rw [Vals.ref1 r]
  have hd := I.ok.hd hc
  have fin : ∀ (hq : Heap) (tk c : Nat), SetR X.w hq s.heap.objs.size (fun j => decide (j ∈ ns)) c → c ≤ ns.length → (∀ b o, s.heap.get? b = some o → hq.get? b = some o) → EP X pins σ Q (.ref s.heap.objs.size) { s with heap := hq, toks := tk } := fun hq tk c R hcn k =>
    ⟨.ref _, upd H s.heap.objs.size (SetO X.w s.heap.objs.size (fun j => decide (j ∈ ns)) c), I.laid (t' := tk) k (Nat.le_refl _) (setO_new R), rfl, q _ c (I.hok.fresh (Nat.le_refl _)) hcn⟩
  rcases ha with ha | ha
  · obtain ⟨its, rv, p, hz⟩ := I.list ha
    exact call_set_lstI ns hd p.isList (by simpa using rv.ints) (by unfold scanBound; omega) fin
  · obtain ⟨its, rv, p, hz⟩ := I.tuple ha
    exact call_set_tupI ns hd (show s.heap.IsTuple a its.toArray from p) (by simpa using rv.ints) (by unfold scanBound; omega) fin
/-- sorted(set(xs)) -/
def dSortSet (de : DE) : DE := fun ρ S Q X => de ρ S (fun d S1 => seqOf d S1 fun xs => ∃ ns : List Int, xs = ns.map Dv.int ∧ ns.length < 64 ∧ ∀ ms : List Int, ms.Pairwise (· < ·) → (∀ k, k ∈ ms ↔ k ∈ ns) → Q (.rol (ms.map Dv.int)) S1) X
theorem d_sortSet {W : WX} {e : Expr} {de : DE} {p p2 pos pos2 : Pos} (hc : X.calm = true) (hs : X.mg "sorted" = none) (hm : X.mg "set" = none) (he : PE X e (low X.K W de)) (hg : Gl X "sorted" := by rfl) (hg2 : Gl X "set" := by rfl)
    (h1 : starEach [.Call (.Name "set" p2) [e] [] pos2] X.env = (false, eval (.Call (.Name "set" p2) [e] [] pos2) X.env) :: starEach [] X.env := by rfl) (h2 : starEach [e] X.env = (false, eval e X.env) :: starEach [] X.env := by rfl) :
    PE X (.Call (.Name "sorted" p) [.Call (.Name "set" p2) [e] [] pos2] [] pos) (low X.K W (dSortSet de)) :=
  pei (pe_fz (pe_callB (cr_sortedSet hc) hg hs bt_sorted (pa_cons (pe_callTy (cr_setLT hc) hg2 hm bt_set (pa_cons he pa_nil h2) (by decide) (by decide) h2 rfl) pa_nil h1) (by decide) (by decide) h1 rfl)) fun σ H Q ⟨ρ, S, Qh, Xh, hσ, hS, h, k, x⟩ => by
  refine ⟨ρ, S, _, Xh, hσ, hS, h, fun d S1 v H1 q t r a => ?_, x⟩
  obtain ⟨b, us, xs, rfl, hb, rl, ns, rfl, hl, q⟩ := seqOf_i r a q
  have e := rl.ints
  subst e
  refine ⟨b, ns, rfl, hb, by omega, fun p c hp hcn => ⟨p, _, c, rfl, upd_same, by omega, fun ms p3 h1 h2 h3 hp3 => ?_⟩⟩
  have tp : Tk X.K H1 (upd H1 p (SetO X.w p (fun j => decide (j ∈ ns)) c)) := Tk.new hp
  refine (k.mono (t.trans tp)).frzL (q ms h1 fun j => by rw [h2 j, decide_eq_true_eq]) hp3 (RepL.of_ints ms) (a.tup hp)
end
end VD

/-! readings at known kinds, one by one: what is not known yet stays folded -/
namespace VD
open PySem PySem.Spec PyProof.Rows L2
section
variable {i j k : Int} {b b2 : Bool} {x y : Dv} {xs ys : List Dv} {z w : Str} {S : Sto} {Q : QD} {f : Bool → Bool} {a : Addr} {lo hi : Option Int}
theorem xd_mk {nx : Rho → Sto → Prop} {rt : Dv → Sto → Prop} {bk ct : Rho → Sto → Prop} {ex : Value → Option Addr → Rho → Sto → Prop} {ρ : Rho} : DEnds.xd { nx := nx, rt := rt, bk := bk, ct := ct, ex := ex } ρ = fun c d S => ex c d ρ S := rfl
theorem qAdd_i : rdAddV (.int i) (.int j) S Q = Q (.int (i + j)) S := rfl
theorem qAdd_t : rdAddV (.tup xs) (.tup ys) S Q = (xs.length + ys.length ≤ sizeLine ∧ Q (.tup (xs ++ ys)) S) := rfl
theorem qAdd_s : rdAddV (.str z) (.str w) S Q = (z.length + w.length ≤ sizeLine ∧ Q (.str (z ++ w)) S) := rfl
theorem qAdd_l : rdAddV (.rol xs) (.rol ys) S Q = (xs.length + ys.length ≤ sizeLine ∧ Q (.rol (xs ++ ys)) S) := rfl
theorem qAdd_rl (h : S a = some (.lst xs)) : rdAddV (.ref a) (.rol ys) S Q = (xs.length + ys.length ≤ sizeLine ∧ Q (.rol (xs ++ ys)) S) := by
  unfold rdAddV lstOf
  dsimp only
  rw [h]
theorem qMul_i : rdMulV (.int i) (.int j) S Q = (IntMulOk i j ∧ Q (.int (i * j)) S) := rfl
theorem qMul_t : rdMulV (.tup xs) (.int k) S Q = ((-(2 ^ 63) ≤ k ∧ k ≤ 1000 ∧ xs.length ≤ 1000 ∧ (1 ≤ k ∨ xs ≠ [])) ∧ Q (.tup (List.replicate k.toNat xs).flatten) S) := rfl
theorem qMul_l : rdMulV (.rol xs) (.int k) S Q = (((-(2 ^ 63) ≤ k ∧ k < 2 ^ 63) ∧ xs.length * k.toNat ≤ sizeLine) ∧ Q (.rol (List.replicate k.toNat xs).flatten) S) := rfl
theorem qSub_i : rdSub (.int i) (.int j) S Q = Q (.int (i - j)) S := rfl
theorem qDiv_i : rdDiv (.int i) (.int j) S Q = (CDivP i j ∧ Q (.int (i / j)) S) := rfl
theorem qMod_i : rdMod (.int i) (.int j) S Q = (0 < j ∧ Q (.int (i % j)) S) := rfl
theorem qPow_i : rdPow (.int i) (.int j) S Q = (CPow i j ∧ Q (.int (i ^ j.toNat)) S) := rfl
theorem qIAdd_i : rdIAdd (.int i) (.int j) S Q = Q (.int (i + j)) S := rfl
theorem qEq_i : rdEqG f (.int i) (.int j) S Q = Q (.bl (f (decide (i = j)))) S := rfl
theorem qEq_b : rdEqG f (.bl b) (.bl b2) S Q = Q (.bl (f (decide (b = b2)))) S := rfl
theorem qEq_s : rdEqG f (.str z) (.str w) S Q = Q (.bl (f (decide (z = w)))) S := rfl
theorem qCmp_i {p : Int → Int → Bool} : rdCmp p (.int i) (.int j) S Q = Q (.bl (p i j)) S := rfl
theorem qIsN {x : Dv} : rdIsN f x .non S Q = Q (.bl (f (isNon x))) S := rfl
theorem qSl_t : rdSlV (.tup xs) lo hi S Q = Q (.tup (cutD xs lo hi)) S := rfl
theorem qSl_l : rdSlV (.rol xs) lo hi S Q = Q (.rol (cutD xs lo hi)) S := rfl
theorem qSl_s : rdSlV (.str z) lo hi S Q = (z.length ≤ sizeLine ∧ Q (.str (cutS z lo hi)) S) := rfl
theorem qSl_r (h : S a = some (.lst xs)) : rdSlV (.ref a) lo hi S Q = Q (.rol (cutD xs lo hi)) S := by
  unfold rdSlV lstOf
  dsimp only
  rw [h]
theorem qInt_i : rdInt [.int i] S Q = Q (.int i) S := rfl
theorem qInt_b : rdInt [.bl b] S Q = Q (.int (if b then 1 else 0)) S := rfl
theorem qInt1 {g : Int → Dv} : rdInt1 g [.int i] S Q = Q (g i) S := rfl
theorem qMax : rdMaxL [.int i, .int j] S Q = Q (.int (if j > i then j else i)) S := rfl
theorem qMin : rdMinL [.int i, .int j] S Q = Q (.int (if j < i then j else i)) S := rfl
theorem qList_t : rdListV [.tup xs] S Q = Q (.rol xs) S := rfl
theorem qList_l : rdListV [.rol xs] S Q = Q (.rol xs) S := rfl
theorem qList_r (h : S a = some (.lst xs)) : rdListV [.ref a] S Q = Q (.rol xs) S := by
  unfold rdListV seqOf
  dsimp only
  rw [h]
theorem qIx_cons0 {d : Dv} : rdIx (.tup (d :: xs)) (.int 0) S Q = Q d S := by
  show (∃ e, atI (d :: xs) 0 = some e ∧ Q e S) = _
  rw [atI_0]
  simp
end
theorem kit_ty2 {K : PySem.W.Frag} {C : Addr} {n : String} {b : Bool} (hk : PySem.W.kitMeta n = true) (h : PySem.W.subIn K (.ref C) (.type n) = some b) : PySem.W.kitOne K (.ref C) (.type n) = some b := by
  show (if (Value.ref C == Value.type n) = true then some true else (if PySem.W.kitMeta n = true then PySem.W.subIn K (.ref C) (.type n) else none)) = some b
  rw [if_neg (by show ¬ (false = true); decide), if_pos hk]
  exact h
theorem kit_own {K : PySem.W.Frag} {C D : Addr} {b : Bool} (hne : C ≠ D) (ic : PySem.W.isClsIn K D = true) (ty : PySem.W.typeIn K (.ref D) = some (.type "type")) (h : PySem.W.subIn K (.ref C) (.ref D) = some b) : PySem.W.kitOne K (.ref C) (.ref D) = some b := by
  show (if (Value.ref C == Value.ref D) = true then some true else (if ((PySem.W.clsIn K D).isSome && PySem.W.typeIn K (.ref D) == some (.type "type")) = true then PySem.W.subIn K (.ref C) (.ref D) else none)) = some b
  have e : (Value.ref C == Value.ref D) = false := beq_eq_false_iff_ne.mpr fun z => hne (by cases z; rfl)
  have e2 : ((PySem.W.clsIn K D).isSome && PySem.W.typeIn K (.ref D) == some (.type "type")) = true := by
    have h1 : (PySem.W.clsIn K D).isSome = true := ic
    rw [h1, ty] <;> rfl
  rw [if_neg (by rw [e]; decide), if_pos e2]
  exact h
end VD

/-! a comprehension whose element may raise -/
namespace VD
open PySem PySem.Spec PyProof.Rows L2

/-! ### the frame of the block is the def's -/
section
variable {M : Model} {A : Around} {E : Value → Shared → Prop} {s : Shared} {env : Env}
def postF (M : Model) (A : Around) (E : Value → Shared → Prop) (use : Option (Value → Sem Unit)) (Q : Value → Shared → Prop) (acc : Value) (C : Addr) (fr : Option Addr) (r : Result) (s' : Shared) : Prop :=
  match r, use with
  | .ok _, none => ∃ m, s'.heap.Ns C m ∧ ∀ h', Heap.SameBut C s'.heap h' → Q acc { s' with heap := h' }
  | .ok _, some u => wpAny M A (u acc) (fun _ s'' => ∃ m, s''.heap.Ns C m ∧ ∀ h', Heap.SameBut C s''.heap h' → Q .none { s'' with heap := h' }) E s'
  | .error x, _ => ∃ m, s'.heap.Ns C m ∧ ∀ h', Heap.SameBut C s'.heap h' → ∀ cenv : Env, cenv.frame = fr → wpAny M A (PySem.passOn "comprehension.variables-let-go" x cenv : Sem Value) (fun _ _ => False) E { s' with heap := h' }
theorem any_compF {e : Expr} {scope : Scope} {pos : Pos} {newAcc first : Sem Value} {g : Comprehension} {gs : List Comprehension} {cl : List (Str × Addr)} {use : Option (Value → Sem Unit)} {Q : Value → Shared → Prop}
    (hcl : clausesOf e = g :: gs) (hs : ∀ x, foldedSetIterable g.iter env x = pure x) (hclos : closureFor scope env = pure cl) (hkind : scope.kind = .function) (hnames : ∀ x ∈ scope.names, x.2 = .local → scope.names.lookup x.1 = some .local)
    (h : wpAny M A first (fun x s₁ => wpAny M A (pyIter x) (fun it s₂ => wpAny M A newAcc (fun acc s₃ => wpAny M A (newFunctionEnv scope env.globals cl [] env.qual none .none (some env)) (fun cenv s₄ =>
      codeAny M A (.compStart e 0 it acc { cenv with scope := relabel scope env }) (postF M A E use Q acc cenv.locals cenv.frame) s₄) E s₃) E s₂) E s₁) E s) :
    wpAny M A (comprehension e scope env pos newAcc false first use) Q E s := by
  unfold comprehension
  rw [hclos, hcl]
  refine wpAny_bind (wpAny_mono h (fun x s₁ h₁ => wpAny_bind (wpAny_standAt (wpAny_bind (wpAny_of_eq (hs x) (wpAny_bind (wpAny_holding (wpAny_mono h₁ (fun it s₂ h₂ =>
    wpAny_standIf (wpAny_bind (wpAny_mono h₂ (fun acc s₃ h₃ => wpAny_bind (wpAny_pure (wpAny_bind (wpAny_mono h₃ (fun cenv s₄ h₄ => ?_) fun _ _ h' => h')))) fun _ _ h' => h'))) fun _ _ h' => h'))))))) fun _ _ h' => h')
  dsimp only
  have hv : ∀ x ∈ (scope.names.filter fun x => (x.2 == .local || x.2 == .cell) && x.1 != (".0" : Str)).reverse, x.2 = .local → Env.kindOf { cenv with scope := relabel scope env } x.1 = some .local :=
    fun x hx hl => lookup_relabel_local (hnames x (List.mem_filter.mp (List.mem_reverse.mp hx)).1 hl)
  refine wpAny_holding (wpAny_bind (wpAny_attempt (wpAny_holding (wpAny_run (codeAny_mono h₄ fun r s' hr => ?_)))))
  cases r with
  | ok f =>
    cases use with
    | none =>
      obtain ⟨m, hn, hr⟩ := hr
      exact wpAny_bind (wpAny_holding (wpAny_comp_letGo (cenv := { cenv with scope := relabel scope env }) hkind _ s' m hv hn fun h' m' _ hs' => wpAny_pure (hr h' hs')))
    | some u =>
      have hv' : ∀ x ∈ (scope.names.filter fun x => (x.2 == .local || x.2 == .cell) && x.1 != (".0" : Str)).reverse.drop 1 ++ (scope.names.filter fun x => (x.2 == .local || x.2 == .cell) && x.1 != (".0" : Str)).reverse.take 1,
          x.2 = .local → Env.kindOf { cenv with scope := relabel scope env } x.1 = some .local := fun x hx hl =>
        (List.mem_append.mp hx).elim (fun z => hv x (List.mem_of_mem_drop z) hl) fun z => hv x (List.mem_of_mem_take z) hl
      refine wpAny_bind (wpAny_rule (wpAny_bind (wpAny_holding (wpAny_mono hr (fun _ s'' hr' => ?_) fun _ _ h' => h'))))
      obtain ⟨m, hn, hr'⟩ := hr'
      exact wpAny_bind (wpAny_comp_letGo (cenv := { cenv with scope := relabel scope env }) hkind _ s'' m hv' hn fun h' m' _ hs' => wpAny_pure (hr' h' hs'))
  | error x =>
    have hr' : ∃ m, s'.heap.Ns cenv.locals m ∧ ∀ h', Heap.SameBut cenv.locals s'.heap h' → ∀ cenv' : Env, cenv'.frame = cenv.frame → wpAny M A (PySem.passOn "comprehension.variables-let-go" x cenv' : Sem Value) (fun _ _ => False) E { s' with heap := h' } := by
      cases use <;> exact hr
    obtain ⟨m, hn, hr⟩ := hr'
    exact wpAny_bind (wpAny_holding (wpAny_comp_letGo (cenv := { cenv with scope := relabel scope env }) hkind _ s' m hv hn fun h' m' _ hs' => wpAny_mono (hr h' hs' _ rfl) (fun _ _ f => f.elim) fun _ _ y => y))
end

/-! ### what flies in the block flies in the def -/
section
variable {M : Model} {A : Around} {E : Value → Shared → Prop} {s : Shared} {Z : Obj → Prop} {base : Heap} {env : Env} {outer l : List Env} {L e : Addr}
theorem looks_otherZ {fl : Value} {Q : Unit → Shared → Prop} (hZ : HandSPX.Steady Z) (hfr : A.frames = some (env :: outer)) (hf : env.frame = some L) (hne : (fl == rawInt L) = false) (hkb : base.StaysIn s.heap) (hen : base.get? e = none)
    (hl : s.heap.FunFrames base (env :: outer)) (ht : HandSPX.TracedZ s.heap base e Z fl) (hQ : ∀ h', HandSPX.HeldZ base (env :: outer) e Z L h' → s.heap.UpToSlots h' → Q () { s with heap := h' }) : wpAny M A (noteFrame (.ref e) env) Q E s := by
  obtain ⟨oe, vs, T, oT, ts, he, hz, hd, h1, hnT, hTe, hT, hdT, h3⟩ := ht
  unfold noteFrame
  simp only [hf]
  refine wpAny_bind (wpAny_field he hd h1 ?_)
  rw [if_pos (show (Value.ref T != Value.none) = true from by simp)]
  refine wpAny_bind (wpAny_field hT hdT h3 ?_)
  rw [hne, if_neg Bool.false_ne_true]
  refine wpAny_bind (wpAny_setField hT hdT (Array.getElem?_eq_some_iff.mp h3).1 ?_)
  have other : ∀ b, b ≠ T → (s.heap.update T (Obj.mapFields (·.setIfInBounds 3 Value.none))).get? b = s.heap.get? b := fun b hb => Heap.get?_update_other _ _ (Ne.symm hb)
  have nr : ∀ b o, s.heap.get? b = some o → (∀ vs, o.data ≠ .fields vs) → b ≠ T := fun b o hb hnf q => by
    rw [q, hT] at hb; injection hb with hb; subst hb; exact hnf ts hdT
  refine HandSPX.wpAny_entryZ hZ hfr (hl.of_keeps fun b o hb hnf => ⟨o, (other b (nr b o hb hnf)).trans hb, rfl⟩) hf ((other e (Ne.symm hTe)).trans he)
    (fun b o hbo => (other b fun q => by rw [q, hnT] at hbo; cases hbo).trans (hkb b o hbo)) hen hd (Array.getElem?_eq_some_iff.mp h1).1 hz fun h' ⟨x1, x2, x3, x4⟩ => ?_
  exact hQ h' ⟨x1, hen, x2, x3⟩ fun b o hb hnf => x4 b o ((other b (nr b o hb hnf)).trans hb) hnf
theorem framesOn {h h' base base' : Heap} (kb : ∀ b, base.get? b = none → base'.get? b = none) : ∀ {l : List Env}, (∀ b ∈ frs l, ∀ o, h.get? b = some o → h'.get? b = some o) → h.FunFrames base l → h'.FunFrames base' l
  | [], _, _ => trivial
  | env :: l, k, ⟨hk, ⟨L, o, hf, hn, ho, hd⟩, hr⟩ => ⟨hk, ⟨L, o, hf, kb L hn, k L (List.mem_filterMap.mpr ⟨env, List.mem_cons_self, hf⟩) o ho, hd⟩, framesOn kb (fun b hb o e => by
      obtain ⟨x, hx, q⟩ := List.mem_filterMap.mp hb
      exact k b (List.mem_filterMap.mpr ⟨x, List.mem_cons_of_mem _ hx, q⟩) o e) hr⟩
end

/-- only what an exception meets is another -/
theorem Inv.xeTo {X : Cx} {pins : List (Addr × Obj)} {σ : L2.St} {H : Hp} {s : Shared} {pn : List (Addr × Obj)} {xe : Value → Shared → Prop} (I : L2.Inv X pins σ H s) (e : pn = X.pn) : L2.Inv (X.tr pn xe) pins σ H s := by
  subst e
  exact ⟨I.ok.toTry _ _, I.os, I.bare, I.base, I.loc, I.cell, I.free, I.freeC, I.pin, I.hok, I.len⟩
theorem Inv.xeOf {X : Cx} {pins : List (Addr × Obj)} {σ : L2.St} {H : Hp} {s : Shared} {pn : List (Addr × Obj)} {xe : Value → Shared → Prop} (I : L2.Inv (X.tr pn xe) pins σ H s) (e : pn = X.pn) : L2.Inv X pins σ H s := by
  subst e
  exact ⟨I.ok.ofTry, I.os, I.bare, I.base, I.loc, I.cell, I.free, I.freeC, I.pin, I.hok, I.len⟩
abbrev blkX (X : Cx) (s : Shared) (H : Hp) (scope : Scope) (ce : Env) (fp : List Addr) (xe : Value → Shared → Prop) : Cx := (X.blk s H scope ce fp).tr [] xe
theorem blk_takes {X : Cx} {W : WX} {pins : List (Addr × Obj)} {σ : L2.St} {H3 : Hp} {s3 : Shared} {scope : Scope} {ce : Env} {fp : List Addr} {use : Option (Value → Sem Unit)} {Qf : Value → Shared → Prop} {acc : Value}
    (tk : Takes X W) (hst : X.stack = X.env :: X.outer) (hf : X.env.frame = some X.env.locals) (I3 : L2.Inv X pins σ H3 s3) (hfp : ∀ b ∈ fp, FpOk X pins H3 b) (cL : ce.locals = s3.heap.objs.size) (cF : ce.frame = X.env.frame) :
    Takes (blkX X s3 H3 scope ce fp (notedBy (model X.prog X.w) X.A ce fun e s' => postF (model X.prog X.w) X.A X.xe use Qf acc s3.heap.objs.size X.env.frame (.error e) s')) (fun c d _ H => W c d σ H) := by
  rintro u s' ⟨a, B, sI, pinsI, σI, H, cls, d, rfl, I, nb, up, sky, na, os, ag, w⟩
  have nC : H s3.heap.objs.size = none := by
    have z : H ce.locals = none := I.free
    rw [cL] at z
    exact z
  have fC : FpOk X pins H s3.heap.objs.size := I3.fpOk (Nat.le_refl _) nC
  obtain ⟨m, ⟨oC, es, ep, hoC, hrC⟩, _⟩ := I.loc
  have hoC : sI.heap.get? s3.heap.objs.size = some oC := by rw [← cL]; exact hoC
  have CL_ : X.env.locals < s3.heap.objs.size := I3.lt
  have nfr : s3.heap.objs.size ∉ frs X.stack := fun hb => by
    rcases List.mem_cons.mp (I3.stkSub _ hb) with e | e
    · exact fC.2.1 e
    · exact fC.2.2.1 e
  have BC : B.get? s3.heap.objs.size = some oC := nb _ _ hoC nfr
  have hfr : X.A.frames = some (X.env :: X.outer) := by rw [← hst]; exact I3.ok.frames
  -- the def's own state, without the block's names
  have J0 : L2.Inv X pins σ H sI := I3.call' (ch := fp) I.os I.base I.hok I.bare fun b hb => ⟨(hfp b hb).2.2.2.1, (hfp b hb).2.1, (hfp b hb).2.2.2.2.1, (hfp b hb).2.2.2.2.2⟩
  have J : L2.Inv X pins σ H { sI with heap := PySem.W.hideAll sI.heap [s3.heap.objs.size] } :=
    J0.turned (t' := sI.toks) (fun b o hb e => PySem.W.hideAll_get _ e (by simpa using hb)) nC fC.2.1 fC.2.2.2.1 fC.2.2.2.2.1 fC.2.2.2.2.2
  have sky : Sky B (X.env :: X.outer) a (Zc cls d) ce.locals s'.heap := by rw [← hst]; exact sky
  have fin : ∀ h1, HandSPX.HeldZ B (X.env :: X.outer) a (Zc cls d) X.env.locals h1 → s'.heap.UpToSlots h1 → postF (model X.prog X.w) X.A X.xe use Qf acc s3.heap.objs.size X.env.frame (.error (.ref a)) { s' with heap := h1 } := by
    rintro h1 ⟨hB, hn, hl, oe, vs, T, oT, ts, he, hz, hd, hv, hnT, hTe, hT, hdT, h3⟩ up1
    have core : ∃ m, h1.Ns s3.heap.objs.size m ∧ ∀ h', Heap.SameBut s3.heap.objs.size h1 h' → ∀ cenv : Env, cenv.frame = X.env.frame → wpAny (model X.prog X.w) X.A (PySem.passOn "comprehension.variables-let-go" (.ref a) cenv : Sem Value) (fun _ _ => False) X.xe { s' with heap := h' } := by
      refine ⟨m, ⟨oC, es, ep, hB _ _ BC, hrC⟩, fun h2 sb cenv hce => ?_⟩
      have aC : a ≠ s3.heap.objs.size := fun e => by rw [e, BC] at hn; cases hn
      have TC : T ≠ s3.heap.objs.size := fun e => by rw [e, BC] at hnT; cases hnT
      have nB : ∀ b, B.get? b = none → (PySem.W.hideAll B [s3.heap.objs.size]).get? b = none := fun b e => by
        cases q : (PySem.W.hideAll B [s3.heap.objs.size]).get? b with
        | none => rfl
        | some o => rw [PySem.W.of_hideAll _ q] at e; cases e
      have iB : ∀ b o, (PySem.W.hideAll B [s3.heap.objs.size]).get? b = some o → B.get? b = some o ∧ b ≠ s3.heap.objs.size := fun b o e => ⟨PySem.W.of_hideAll _ e, fun z => by
        rw [z, PySem.W.hideAll_none [s3.heap.objs.size] (List.mem_singleton.mpr rfl)] at e
        cases e⟩
      have he2 : h2.get? a = some oe := (sb.2 a aC).trans he
      have hT2 : h2.get? T = some oT := (sb.2 T TC).trans hT
      have held : HandSPX.HeldZ (PySem.W.hideAll B [s3.heap.objs.size]) (X.env :: X.outer) a (Zc cls d) X.env.locals h2 := by
        refine ⟨fun b o e => ?_, nB _ hn, framesOn nB (fun b hb o e => ?_) hl, oe, vs, T, oT, ts, he2, hz, hd, hv, nB _ hnT, hTe, hT2, hdT, h3⟩
        · obtain ⟨e1, e2⟩ := iB b o e
          exact (sb.2 b e2).trans (hB b o e1)
        · refine (sb.2 b fun z => nfr ?_).trans e
          rw [hst, ← z]
          exact hb
      unfold PySem.passOn
      refine wpAny_bind (wpAny_field he2 hd hv ?_)
      rw [if_neg (show ¬ ((Value.ref T == Value.none) = true) from by simp)]
      rw [hce, hf]
      refine wpAny_bind (HandSPX.setFlight_onZ held fun h3 held3 up3 => wpAny_throw (tk _ _ ⟨a, PySem.W.hideAll B [s3.heap.objs.size], _, pins, σ, H, cls, d, rfl, J, fun b o e nb1 => ?_, fun b o e hnf => ?_, .inr (.inr ?_), na, os, ag, w⟩))
      · have e1 : sI.heap.get? b = some o := PySem.W.of_hideAll _ e
        have e2 : b ≠ s3.heap.objs.size := fun z => by
          have e : (PySem.W.hideAll sI.heap [s3.heap.objs.size]).get? b = some o := e
          rw [z, PySem.W.hideAll_none [s3.heap.objs.size] (List.mem_singleton.mpr rfl)] at e
          cases e
        exact PySem.W.hideAll_get _ (nb b o e1 nb1) (by simpa using e2)
      · have e : (PySem.W.hideAll sI.heap [s3.heap.objs.size]).get? b = some o := e
        have e1 : sI.heap.get? b = some o := PySem.W.of_hideAll _ e
        have e2 : b ≠ s3.heap.objs.size := fun z => by
          rw [z, PySem.W.hideAll_none [s3.heap.objs.size] (List.mem_singleton.mpr rfl)] at e
          cases e
        obtain ⟨sl, q1⟩ := (up.trans up1) b o e1 hnf
        obtain ⟨sl2, q2⟩ := up3 b _ ((sb.2 b e2).trans q1) hnf
        exact ⟨sl2, q2⟩
      · rw [hst]
        exact held3
    cases use <;> exact core
  have enote : noteFrame (.ref a) ce = noteFrame (.ref a) X.env := by
    unfold noteFrame PySem.frameOf
    rw [cF]
  show wpAny (model X.prog X.w) X.A (noteFrame (.ref a) ce) _ _ s'
  rw [enote]
  rcases sky with ⟨hB, hn, hl, oe, vs, he, hz, hd, h1⟩ | ⟨hB, hn, hl, ht⟩ | ⟨hB, hn, hl, ht⟩
  · exact HandSPX.look_newZ Zc.steady hfr hl hf he hB hn hd h1 hz fin
  · exact looks_otherZ Zc.steady hfr hf (by simp [rawInt]) hB hn hl ht fin
  · refine looks_otherZ Zc.steady hfr hf ?_ hB hn hl ht fin
    rw [cL]
    refine beq_eq_false_iff_ne.mpr fun e => ?_
    have e2 := Int.ofNat.inj (Value.int.inj e).1
    exact Nat.ne_of_gt CL_ e2

/-! ### the comprehension -/
section
variable {X : Cx}
def tLcX (wi : TI) (g : TG) (tt : TT) (te : WX → TE) (vs : List Nat) (W : WX) : TE := fun σ H Q => wi σ H fun J H1 => ∀ D, H1 D = none → ∃ Wv : Nat → Nat → Hp → Prop, (∃ m, Wv 0 m (upd H1 D (.lst []))) ∧ ∀ i m H2, Wv i m H2 →
  (J.stop i H2 ∧ Q (.ref D) H2) ∨ (J.go i H2 ∧ ∃ Nx : Hp → Prop, (∀ H', Nx H' → ∃ m', m' < m ∧ Wv (i + 1) m' H') ∧ ∀ x H', J.yld i H2 x H' → g x (L2.wipe σ vs) H' fun σ2 H3 => L2.wipe σ2 vs = L2.wipe σ vs ∧ tt σ2 H3 fun b H4 =>
    if b = true then te (fun c d _ H => W c d σ H) σ2 H4 fun y H5 => ∃ acc, H5 D = some (.lst acc) ∧ acc.length < sizeLine ∧ Nx (upd H5 D (.lst (acc ++ [y]))) else Nx H4)
theorem lcX_core {pins : List (Addr × Obj)} {s : Shared} {σ : L2.St} {H : Hp} {Q : VK} {W : WX} {elt tg iter : Expr} {ifs : List Expr} {scope : Scope} {own : List (Str × Nat)} {pos pos' : Pos} {wi : TI} {g : TG} {tt : TT} {te : WX → TE} {use : Option (Value → Sem Unit)} {Qf : Value → Shared → Prop}
    (tk : Takes X W) (hst : X.stack = X.env :: X.outer) (hf : X.env.frame = some X.env.locals)
    (hc : X.calm = true) (hN : X.N.Nodup) (I : L2.Inv X pins σ H s) (hi : PI X tg iter wi) (ok : BlkOk X.N X.env.scope scope own)
    (hg : ∀ (s : Shared) (H : Hp) (C : Addr) (cl : List (Str × Addr)) (fp : List Addr), PG (X.blk s H scope (compEnvC scope cl C X.env) fp) tg g) (ht : ∀ (s : Shared) (H : Hp) (C : Addr) (cl : List (Str × Addr)) (fp : List Addr), PTs (X.blk s H scope (compEnvC scope cl C X.env) fp) ifs tt)
    (he : ∀ (s : Shared) (H : Hp) (C : Addr) (cl : List (Str × Addr)) (fp : List Addr) (xe : Value → Shared → Prop) (Wb : WX), Takes (blkX X s H scope (compEnvC scope cl C X.env) fp xe) Wb → PE (blkX X s H scope (compEnvC scope cl C X.env) fp xe) elt (te Wb)) (hs : ∀ x, foldedSetIterable iter X.env x = pure x)
    (h : tLcX wi g tt te (own.map (·.2)) W σ H Q)
    (hRR : ∀ D C s' m H', L2.Inv X pins σ H' s' → Q (.ref D) H' → s'.heap.Ns C m → FpOk X pins H' C → postF (model X.prog X.w) X.A X.xe use Qf (.ref D) C X.env.frame (.ok .next) s') :
    wpAny (model X.prog X.w) X.A (comprehension (.ListComp elt [⟨tg, iter, ifs, 0⟩] scope pos) scope X.env pos' (newList []) false (eval iter X.env) use) Qf X.xe s := by
  have hfree : ∀ y ∈ scope.names, y.2 = .free → ∃ c, X.env.cells.lookup y.1 = some c := fun y hy e => (ok.free y hy e).elim (fun k => I.ok.has _ (.inl k)) fun k => I.ok.has _ (.inr k)
  refine any_compF (use := use) rfl hs (closure_ok hfree) ok.kind (fun y hy e => by rw [ok.uniq y hy, e]) (thn (hi.run pins s σ H _ I h) fun xv s1 hx => thn hx fun itv s2 h2 => ?_)
  obtain ⟨it, fp, tn, J, H2, e, I2, T, st2, f2, q⟩ := h2
  subst e
  refine wpAny_newObj_type (newEnv_comp ?_) (by show 0 ≤ sizeLine; decide)
  generalize hD : s2.heap.objs.size = D
  have hDn : H2 D = none := I2.hok.fresh (Nat.le_of_eq hD)
  obtain ⟨Wv, ⟨m0, w0⟩, turn⟩ := q D hDn
  generalize hs3 : ({ s2 with heap := s2.heap.push { cls := .type "list", data := .seq ([] : List Value).toArray } } : Shared) = s3
  have I3 : L2.Inv X pins σ (upd H2 D (.lst [])) s3 := by
    rw [← hs3]
    refine I2.laid (t' := s2.toks) (fun b o e => Heap.get?_push_of_some _ e) (Nat.le_of_eq hD) ⟨Nat.zero_le _, [], 0, .nil, ?_⟩
    rw [← hD]
    exact Heap.get?_push_size _ rfl
  have h3 : s3.heap = s2.heap.push { cls := .type "list", data := .seq ([] : List Value).toArray } := by rw [← hs3]
  have sz : ∀ b ∈ fp, b < s2.heap.objs.size := fun b hb => by
    obtain ⟨o, e, _⟩ := T.obj _ _ st2 b hb
    exact Heap.lt_size e
  have f3 : ∀ b ∈ fp, FpOk X pins (upd H2 D (.lst [])) b ∧ b < s3.heap.objs.size := fun b hb => by
    have hlt := sz b hb
    refine ⟨⟨?_, (f2 b hb).2⟩, by rw [h3, Heap.size_push]; exact Nat.lt_succ_of_lt hlt⟩
    rw [upd_ne (by rw [← hD]; exact Nat.ne_of_lt hlt)]
    exact (f2 b hb).1
  have st3 : tn 0 s3.heap := T.keep _ _ _ st2 fun b _ o e => by rw [h3]; exact Heap.get?_push_of_some _ e
  have I4 := block_start I3 ok hN f3
  have pg := hg s3 (upd H2 D (.lst [])) s3.heap.objs.size (cellsFrom (s3.heap.objs.size + 1) scope.names (cloFrom X.env.cells scope.names [])) fp
  have pt := ht s3 (upd H2 D (.lst [])) s3.heap.objs.size (cellsFrom (s3.heap.objs.size + 1) scope.names (cloFrom X.env.cells scope.names [])) fp
  have tb := blk_takes (scope := scope) (ce := compEnvC scope (cellsFrom (s3.heap.objs.size + 1) scope.names (cloFrom X.env.cells scope.names [])) s3.heap.objs.size X.env) (use := use) (Qf := Qf) (acc := .ref D) tk hst hf I3 (fun b hb => (f3 b hb).1) rfl rfl
  have pe := he s3 (upd H2 D (.lst [])) s3.heap.objs.size (cellsFrom (s3.heap.objs.size + 1) scope.names (cloFrom X.env.cells scope.names [])) fp _ _ tb
  show codeAny _ _ (.compStart (.ListComp elt [⟨tg, iter, ifs, 0⟩] scope pos) 0 (.ref it) (.ref D) (compEnvC scope (cellsFrom (s3.heap.objs.size + 1) scope.names (cloFrom X.env.cells scope.names [])) s3.heap.objs.size X.env)) (postF (model X.prog X.w) X.A X.xe use Qf (.ref D) s3.heap.objs.size X.env.frame) { s3 with heap := pushCells (s3.heap.push { cls := .type "dict", data := .dict #[] }) scope.names }
  have nfp : ∀ b ∈ fp, (upd H2 D (.lst [])) b = none := fun b hb => (f3 b hb).1.1
  clear tb
  generalize hce : compEnvC scope (cellsFrom (s3.heap.objs.size + 1) scope.names (cloFrom X.env.cells scope.names [])) s3.heap.objs.size X.env = ce at I4 pg pt pe ⊢
  have cL : ce.locals = s3.heap.objs.size := by subst hce; rfl
  generalize hH3 : upd H2 D (.lst []) = H3 at I3 I4 pg pt pe w0 nfp f3
  generalize hs4 : ({ s3 with heap := pushCells (s3.heap.push { cls := .type "dict", data := .dict #[] }) scope.names } : Shared) = s4 at I4 ⊢
  have st4 : tn 0 s4.heap := T.keep _ _ _ st3 fun b _ o e => by rw [← hs4]; exact pushCells_keeps _ _ _ _ (Heap.get?_push_of_some _ e)
  have stat : ∀ {σ' : L2.St} {H' : Hp} {s' : Shared}, L2.Inv (X.blk s3 H3 scope ce fp) [] σ' H' s' → (∀ b ∈ fp, H' b = none) → ∀ b ∈ fp, FpOk (X.blk s3 H3 scope ce fp) [] H' b := fun {σ' H' s'} I' hn b hb =>
    ⟨hn b hb, (I'.ok.exf b hb).1, I'.ok.exfs b hb, .inl hb, fun x c e => (I'.ok.exf b hb).2 x c e, fun p hp => absurd (show p ∈ ([] : List (Addr × Obj)) ++ [] from hp) (by simp)⟩
  have loop : codeAny (model X.prog X.w) X.A (.compLoop (.ListComp elt [⟨tg, iter, ifs, 0⟩] scope pos) 0 (.ref it) (.ref D) ce) (postF (model X.prog X.w) X.A X.xe use Qf (.ref D) s3.heap.objs.size X.env.frame) s4 := by
    refine compLoop_any (fun n s' => ∃ i H', L2.Inv (X.blk s3 H3 scope ce fp) [] (L2.wipe σ (own.map (·.2))) H' s' ∧ tn i s'.heap ∧ (∀ b ∈ fp, H' b = none) ∧ Wv i n H') ?_ m0 ⟨0, H3, I4, st4, nfp, w0⟩
    rintro n s5 ⟨i, H5, I5, st5, n5, w5⟩
    rcases turn i n H5 w5 with ⟨stop, qq⟩ | ⟨go, Nx, hNx, step⟩
    · refine thnF (T.done (X.blk s3 H3 scope ce fp) rfl rfl rfl hc i [] s5 _ H5 (fun _ _ => False) I5 (stat I5 n5) st5 stop) fun r s6 ⟨hr, I6⟩ => ?_
      subst hr
      have I7 : L2.Inv X pins σ H5 s6 := I3.call' (ch := fp) I6.os I6.base I6.hok I6.bare fun b hb => ⟨(f3 b hb).1.2.2.2.1, (f3 b hb).1.2.1, (f3 b hb).1.2.2.2.2.1, (f3 b hb).1.2.2.2.2.2⟩
      have nC : H5 s3.heap.objs.size = none := by
        have z : H5 ce.locals = none := I6.free
        rw [cL] at z
        exact z
      obtain ⟨m, hn, _⟩ := I6.loc
      have hn : s6.heap.Ns ce.locals m := hn
      rw [cL] at hn
      exact hRR D s3.heap.objs.size s6 m H5 I7 qq hn (I3.fpOk (Nat.le_refl _) nC)
    · refine thnF (T.item (X.blk s3 H3 scope ce fp) rfl rfl rfl hc i [] s5 _ H5 (fun _ _ => False) I5 (stat I5 n5) st5 go) fun r s6 ⟨u, hr, h6⟩ => ?_
      subst hr
      refine thnF h6 fun _ s7 ⟨x, H7, I7, r7, y7, st7, n7⟩ => ?_
      have I7' := I7.pinned (stat I7 n7) (T.obj _ _ st7)
      refine thnF (pg.run _ s7 _ H7 x u _ I7' r7 (step x H7 y7)) fun _ s8 ⟨σ8, H8, I8, hw8, q8⟩ => ?_
      refine thnF (pt.run _ s8 σ8 H8 _ I8 q8) fun b s9 ⟨H9, I9, q9⟩ => ?_
      have fin : ∀ {s' : Shared} {H' : Hp}, L2.Inv (X.blk s3 H3 scope ce fp) ([] ++ pinsAt fp s7.heap) σ8 H' s' → Nx H' → ∃ m, m < n ∧ ∃ i H', L2.Inv (X.blk s3 H3 scope ce fp) [] (L2.wipe σ (own.map (·.2))) H' s' ∧ tn i s'.heap ∧ (∀ b ∈ fp, H' b = none) ∧ Wv i m H' := fun {s' H'} I' nx => by
        obtain ⟨m', hm, w'⟩ := hNx H' nx
        have pin' : ∀ b ∈ fp, ∀ o, s7.heap.get? b = some o → s'.heap.get? b = some o ∧ H' b = none := fun b hb o e =>
          let z := I'.pin (b, o) (List.mem_append_right _ (List.mem_append_right _ (mem_pinsAt hb e)))
          ⟨z.1, z.2.1⟩
        have hl : (L2.wipe σ (own.map (·.2))).length = σ8.length := by rw [← hw8, wipe_length]
        refine ⟨m', hm, i + 1, H', (I'.unpinned (pins := [])).weak hl (fun j v e => ?_), T.keep _ _ _ st7 fun b hb o e => (pin' b hb o e).1, fun b hb => ?_, w'⟩
        · rw [← hw8] at e
          exact (wipe_some e).1
        · obtain ⟨o, e, _⟩ := T.obj _ _ st7 b hb
          exact (pin' b hb o e).2
      cases b with
      | false =>
        simp only [Bool.false_eq_true, if_false] at q9 ⊢
        exact fin I9 q9
      | true =>
        simp only [if_true] at q9 ⊢
        refine thn (pe.run _ s9 σ8 H9 _ (Inv.xeTo I9 rfl) q9) fun z s10 ⟨yv, H10, I10, r10, acc, hD10, hz10, nx⟩ => ?_
        exact app_ok (X := X.blk s3 H3 scope ce fp) (Inv.xeOf I10 rfl) hD10 hz10 r10 fun s11 I11 => fin I11 nx
  exact codeAny_compStart_list loop (T.self X.A 0 _ _ _ st4 loop)
theorem pe_lcX {W : WX} {elt tg iter : Expr} {ifs : List Expr} {scope : Scope} {own : List (Str × Nat)} {pos : Pos} {wi : TI} {g : TG} {tt : TT} {te : WX → TE} (tk : Takes X W) (hst : X.stack = X.env :: X.outer) (hf : X.env.frame = some X.env.locals)
    (hc : X.calm = true) (hN : X.N.Nodup) (hi : PI X tg iter wi) (ok : BlkOk X.N X.env.scope scope own)
    (hg : ∀ (s : Shared) (H : Hp) (C : Addr) (cl : List (Str × Addr)) (fp : List Addr), PG (X.blk s H scope (compEnvC scope cl C X.env) fp) tg g) (ht : ∀ (s : Shared) (H : Hp) (C : Addr) (cl : List (Str × Addr)) (fp : List Addr), PTs (X.blk s H scope (compEnvC scope cl C X.env) fp) ifs tt)
    (he : ∀ (s : Shared) (H : Hp) (C : Addr) (cl : List (Str × Addr)) (fp : List Addr) (xe : Value → Shared → Prop) (Wb : WX), Takes (blkX X s H scope (compEnvC scope cl C X.env) fp xe) Wb → PE (blkX X s H scope (compEnvC scope cl C X.env) fp xe) elt (te Wb)) (hs : ∀ x, foldedSetIterable iter X.env x = pure x) :
    PE X (.ListComp elt [⟨tg, iter, ifs, 0⟩] scope pos) (tLcX wi g tt te (own.map (·.2)) W) := by
  refine ⟨fun pins s σ H Q I h => ?_⟩
  rw [eval_ListComp]
  refine lcX_core tk hst hf hc hN I hi ok hg ht he hs h fun D C s' m H' I' q hn ⟨f0, f1, f2, f3, f4, f5⟩ => ⟨m, hn, fun h'' sb => ?_⟩
  exact ⟨.ref D, H', I'.turned (t' := s'.toks) (fun b o hb e => (sb.2 b hb).trans e) f0 f1 f3 f4 f5, rfl, q⟩
theorem ps_setLcX {W : WX} {i : Nat} {y : Str} {py : Pos} {elt tg iter : Expr} {ifs : List Expr} {scope : Scope} {own : List (Str × Nat)} {pos spos : Pos} {wi : TI} {g : TG} {tt : TT} {te : WX → TE} (tk : Takes X W) (hst : X.stack = X.env :: X.outer) (hf : X.env.frame = some X.env.locals)
    (hc : X.calm = true) (hN : X.N.Nodup) (hy : X.N[i]? = some y) (hyl : X.env.scope.names.lookup y = some .local)
    (hsw : swapsWith (.ListComp elt [⟨tg, iter, ifs, 0⟩] scope pos) (some (.Name y py)) spos.line X.env = pure true) (hi : PI X tg iter wi) (ok : BlkOk X.N X.env.scope scope own)
    (hg : ∀ (s : Shared) (H : Hp) (C : Addr) (cl : List (Str × Addr)) (fp : List Addr), PG (X.blk s H scope (compEnvC scope cl C X.env) fp) tg g) (ht : ∀ (s : Shared) (H : Hp) (C : Addr) (cl : List (Str × Addr)) (fp : List Addr), PTs (X.blk s H scope (compEnvC scope cl C X.env) fp) ifs tt)
    (he : ∀ (s : Shared) (H : Hp) (C : Addr) (cl : List (Str × Addr)) (fp : List Addr) (xe : Value → Shared → Prop) (Wb : WX), Takes (blkX X s H scope (compEnvC scope cl C X.env) fp xe) Wb → PE (blkX X s H scope (compEnvC scope cl C X.env) fp xe) elt (te Wb)) (hs : ∀ x, foldedSetIterable iter X.env x = pure x) :
    PS X (.Assign [.Name y py] (.ListComp elt [⟨tg, iter, ifs, 0⟩] scope pos) spos) (tAsg (tLcX wi g tt te (own.map (·.2)) W) (gName i)) := by
  refine ⟨fun pins s σ H D I h => ?_⟩
  rw [exec_Assign_Name_used _ _ _ _ hsw]
  refine wpAny_bind (wpAny_standAt (wpAny_bind ?_))
  show wpAny _ X.A (do let _ ← comprehension (.ListComp elt [⟨tg, iter, ifs, 0⟩] scope pos) scope X.env (firstIterPos [⟨tg, iter, ifs, 0⟩] pos) (newList []) false (eval iter X.env) (some (assign (.Name y py) X.env))) _ _ s
  have h : tLcX wi g tt te (own.map (·.2)) W σ H (fun x H1 => gName i x σ H1 D.nx) := h
  refine wpAny_bind (thn (lcX_core (Qf := fun _ s' => SP X pins D .next s') tk hst hf hc hN I hi ok hg ht he hs h fun L C s' m H' I' q hn ⟨f0, f1, f2, f3, f4, f5⟩ => ?_) fun _ s' hq => wpAny_pure (wpAny_pure hq))
  show wpAny _ _ (assign (.Name y py) X.env (.ref L)) _ _ _
  refine wpAny_assign_Name (store_ok2 (v := V.ref L) I' hN hy (.inl hyl) rfl (fun s2 I2 ⟨a, sb, ha⟩ => ?_) (.inr hyl))
  have haC : C ≠ a := ha.elim (fun z => by rw [z]; exact f1) fun z e => f4 y a z e.symm
  exact ⟨m, hn.sameBut sb haC, fun h3 sb3 => ⟨_, H', I2.turned (t' := s2.toks) (fun b o hb e => (sb3.2 b hb).trans e) f0 f1 f3 f4 f5, q⟩⟩
end
/-! ### over readings -/
def LcGoX (g : DG) (tt : DT) (te : DE) (vs : List Nat) (ρ : Rho) (Q : QD) (X : XD) (items : List Dv) (stay : Sto → Prop) (S1 : Sto) : Prop := ∀ p, S1 p = none → ∃ Wv : Nat → Sto → Prop, Wv 0 (put S1 p (.lst [])) ∧ (∀ i S, i ≤ items.length → Wv i S → stay S) ∧
  (∀ i x S, items[i]? = some x → Wv i S → g x (wipeD ρ vs) S fun ρ2 S2 => tt ρ2 S2 (fun b S3 => if b = true then te ρ2 S3 (fun y S4 => ∃ acc, S4 p = some (.lst acc) ∧ acc.length < sizeLine ∧ Wv (i + 1) (put S4 p (.lst (acc ++ [y])))) X else Wv (i + 1) S3) X0) ∧
  ∀ S, Wv items.length S → Q (.ref p) S
def dLcX (di : DI) (g : DG) (tt : DT) (te : DE) (vs : List Nat) : DE := fun ρ S Q X => di ρ S (fun items stay S1 => LcGoX g tt te vs ρ Q X items stay S1) X
section
variable {X : Cx} {W : WX} {tg iter elt : Expr} {ifs : List Expr} {di : DI} {g : TG} {dg : DG} {dt : DT} {de : DE} {scope : Scope} {own : List (Str × Nat)} {pos spos : Pos}
theorem wipe_idem : ∀ (l m : List Nat) (τ : L2.St), (∀ j ∈ l, j ∈ m) → L2.wipe (L2.wipe τ m) l = L2.wipe τ m := by
  have idem : ∀ (l : List Nat) (τ : L2.St) (j : Nat), j ∈ l → (L2.wipe τ l).set j none = L2.wipe τ l := by
    intro l
    induction l with
    | nil => intro τ j h; cases h
    | cons w l ih =>
      intro τ j h
      unfold L2.wipe
      by_cases hj : j = w
      · subst hj; rw [List.set_set]
      · rw [List.set_comm _ _ (Ne.symm hj), ih τ j ((List.mem_cons.mp h).resolve_left hj)]
  intro l
  induction l with
  | nil => intro m τ _; rfl
  | cons w l ih =>
    intro m τ h
    show (L2.wipe (L2.wipe τ m) l).set w none = _
    rw [ih m τ fun j hj => h j (List.mem_cons_of_mem _ hj), idem m τ w (h w List.mem_cons_self)]
theorem low_lcX {K : PySem.W.Frag} {vs : List Nat} (ng : NG K g dg vs) : ∀ σ H Q, low K W (dLcX di dg dt de vs) σ H Q → tLcX (lowI K W di) g (lowT K W0 dt) (fun Wb => low K Wb de) vs W σ H Q := fun σ H Q ⟨ρ, S, Qh, Xh, hσ, hS, h, k, x⟩ => by
  refine ⟨ρ, S, _, Xh, hσ, hS, h, fun items stay S1 J H1 q t1 a1 it p hp => ?_, x⟩
  obtain ⟨Wv, w0, st, step, done⟩ := q p (a1.free hp)
  refine ⟨fun i m H' => m = items.length - i ∧ i ≤ items.length ∧ Tk K H1 H' ∧ ∃ S', Abs K H' S' ∧ Wv i S', ⟨_, rfl, Nat.zero_le _, Tk.new hp, _, a1.new hp (.mlst upd_same .nil), w0⟩, ?_⟩
  rintro i m H' ⟨rfl, hi, t2, S', a2, w⟩
  by_cases hlt : i < items.length
  · obtain ⟨g1, g2⟩ := it.go i H' S' items[i] t2 a2 (st i S' hi w) (by simp [hlt])
    refine .inr ⟨g1, fun H' => Tk K H1 H' ∧ ∃ S', Abs K H' S' ∧ Wv (i + 1) S', fun H3 ⟨t3, z⟩ => ⟨items.length - (i + 1), by omega, rfl, hlt, t3, z⟩, fun v H3 y => ?_⟩
    obtain ⟨t3, r3, a3⟩ := g2 v H3 y
    have hw : RepS K H3 (L2.wipe σ vs) (wipeD ρ vs) := (hσ.mono (t1.trans (t2.trans t3))).wipe vs
    refine ng v items[i] (L2.wipe σ vs) H3 (wipeD ρ vs) S' _ _ r3 hw a3 (step i _ S' (by simp [hlt]) w) fun ρ4 S4 σ4 H4 q4 t4 r4 a4 e4 => ⟨e4.trans (wipe_idem vs vs σ fun _ h => h), ρ4, S4, _, X0, r4, a4, q4, fun b S5 H5 q5 t5 a5 => ?_, lx0⟩
    have tt5 := t2.trans (t3.trans (t4.trans t5))
    cases b with
    | false =>
      simp only [Bool.false_eq_true, if_false] at q5 ⊢
      exact ⟨tt5, S5, a5, q5⟩
    | true =>
      simp only [if_true] at q5 ⊢
      refine ⟨ρ4, S5, _, Xh, r4.mono t5, a5, q5, fun d S6 v6 H6 q6 t6 r6 a6 => ?_, fun c da S6 H6 q6 t6 a6 => x c da S6 H6 q6 (t1.trans (tt5.trans t6)) a6⟩
      obtain ⟨acc, ea, hl, w6⟩ := q6
      obtain ⟨us, h1, l6⟩ := a6 _ _ ea
      have tw : Tk K H6 (upd H6 p (.lst (us ++ [v6]))) := Tk.write h1 wr_lst
      exact ⟨us, h1, by rw [l6.length]; exact hl, tt5.trans (t6.trans tw), _, a6.write h1 wr_lst (.mlst upd_same ((l6.mono tw).append (.cons (r6.mono tw) .nil))), w6⟩
  · have e : i = items.length := by omega
    subst e
    exact .inl ⟨it.stop H' S' t2 a2 (st _ S' hi w), k _ S' _ H' (done S' w) (t1.trans t2) (.ref p) a2⟩
theorem d_lcX (tk : Takes X W) (hst : X.stack = X.env :: X.outer) (hf : X.env.frame = some X.env.locals) (hc : X.calm = true) (hN : X.N.Nodup) (hi : PI X tg iter (lowI X.K W di)) (ok : BlkOk X.N X.env.scope scope own)
    (hg : ∀ (s : Shared) (H : Hp) (C : Addr) (cl : List (Str × Addr)) (fp : List Addr), PG (X.blk s H scope (compEnvC scope cl C X.env) fp) tg g) (ng : NG X.K g dg (own.map (·.2)))
    (ht : ∀ (s : Shared) (H : Hp) (C : Addr) (cl : List (Str × Addr)) (fp : List Addr), PTs (X.blk s H scope (compEnvC scope cl C X.env) fp) ifs (lowT X.K W0 dt))
    (he : ∀ (s : Shared) (H : Hp) (C : Addr) (cl : List (Str × Addr)) (fp : List Addr) (xe : Value → Shared → Prop) (Wb : WX), Takes (blkX X s H scope (compEnvC scope cl C X.env) fp xe) Wb → PE (blkX X s H scope (compEnvC scope cl C X.env) fp xe) elt (low X.K Wb de)) (hs : ∀ x, foldedSetIterable iter X.env x = pure x := by intro _; rfl) :
    PE X (.ListComp elt [⟨tg, iter, ifs, 0⟩] scope pos) (low X.K W (dLcX di dg dt de (own.map (·.2)))) := pei (pe_lcX (te := fun Wb => low X.K Wb de) tk hst hf hc hN hi ok hg ht he hs) (low_lcX ng)
theorem s_setLcX (i : Nat) {y : Str} {py : Pos} (tk : Takes X W) (hst : X.stack = X.env :: X.outer) (hf : X.env.frame = some X.env.locals) (hc : X.calm = true) (hN : X.N.Nodup) (hsw : swapsWith (.ListComp elt [⟨tg, iter, ifs, 0⟩] scope pos) (some (.Name y py)) spos.line X.env = pure true)
    (hi : PI X tg iter (lowI X.K W di)) (ok : BlkOk X.N X.env.scope scope own)
    (hg : ∀ (s : Shared) (H : Hp) (C : Addr) (cl : List (Str × Addr)) (fp : List Addr), PG (X.blk s H scope (compEnvC scope cl C X.env) fp) tg g) (ng : NG X.K g dg (own.map (·.2)))
    (ht : ∀ (s : Shared) (H : Hp) (C : Addr) (cl : List (Str × Addr)) (fp : List Addr), PTs (X.blk s H scope (compEnvC scope cl C X.env) fp) ifs (lowT X.K W0 dt))
    (he : ∀ (s : Shared) (H : Hp) (C : Addr) (cl : List (Str × Addr)) (fp : List Addr) (xe : Value → Shared → Prop) (Wb : WX), Takes (blkX X s H scope (compEnvC scope cl C X.env) fp xe) Wb → PE (blkX X s H scope (compEnvC scope cl C X.env) fp xe) elt (low X.K Wb de)) (hy : X.N[i]? = some y := by rfl) (hyl : X.env.scope.names.lookup y = some .local := by rfl) (hs : ∀ x, foldedSetIterable iter X.env x = pure x := by intro _; rfl) :
    PS X (.Assign [.Name y py] (.ListComp elt [⟨tg, iter, ifs, 0⟩] scope pos) spos) (lowS X.K W (dAsg (dLcX di dg dt de (own.map (·.2))) (gN i))) := psi (ps_setLcX (te := fun Wb => low X.K Wb de) tk hst hf hc hN hy hyl hsw hi ok hg ht he hs) fun D σ H ⟨ρ, S, Dh, hσ, hS, h, k⟩ => by
  exact low_lcX ng σ H _ ⟨ρ, S, _, _, hσ, hS, h, fun d S1 v H1 q t r a => k.nx _ S1 _ H1 q t ((hσ.mono t).set i r) a, k.lx hσ⟩
end
end VD

/-! methods that only look: count, index; xs[a:] = ys -/
namespace VD
open PySem PySem.Spec PyProof.Rows L2
section
variable {X : Cx} {W : WX} {o e : Expr} {es : List Expr} {do_ : DE} {das : DA} {K : PySem.W.Frag}
/-! ### a method that only looks at its list -/
def isLk (d : Dv) (S : Sto) : Prop := lstOf d S fun _ => True
def dBML (rd : RDM) (do_ : DE) (das : DA) : DE := fun ρ S Q X => do_ ρ S (fun x S1 => isLk x S1 ∧ das ρ S1 (fun ds S2 => rd x ds S2 Q) X) X
theorem isLk_ty {H : Hp} {S : Sto} {d : Dv} {v : V} (r : Rep K H v d) (hS : Abs K H S) (h : isLk d S) : tyV K "list" v H := by
  obtain ⟨a, us, xs, rfl, l, _, _⟩ := lstOf_i r hS h
  exact .inl ⟨rfl, us, l⟩
theorem low_bmL {r : V → List V → Hp → VK → Prop} {rd : RDM} (hl : LRM X.K r rd) : ∀ σ H Q, low X.K W (dBML rd do_ das) σ H Q → tBM X.K "list" r (low X.K W do_) (lowA X.K W das) σ H Q := fun σ H Q ⟨ρ, S, Qh, Xh, hσ, hS, h, k, x⟩ =>
  ⟨ρ, S, _, Xh, hσ, hS, h, fun d S1 v H1 q t rr a => ⟨isLk_ty rr a q.1, ρ, S1, _, Xh, hσ.mono t, a, q.2, fun ds S2 vs H2 q2 t2 r2 a2 => hl v vs H2 d ds S2 Qh Q (rr.mono t2) r2 a2 q2 (k.mono (t.trans t2)), x.mono t⟩, x⟩
theorem d_bml {apos cpos : Pos} {name : Str} {id : String} {r : V → List V → Hp → VK → Prop} {rd : RDM} (slot : Slot "list" name id) (hty : typeOf (.builtin id) = pure (.type "method_descriptor")) (hm : MtR X id r) (hl : LRM X.K r rd)
    (ho : PE X o (low X.K W do_)) (ha : PA X (e :: es) (lowA X.K W das)) (hbase : attributeBase o name X.env (eval o X.env) = eval o X.env := by rfl)
    (hfew : ((backTo cpos (starEach (e :: es) X.env)).all (fun x => !x.1) && (backToKw cpos (keywordEach [] X.env)).all (fun x => x.1.isSome)
      && decide ((e :: es).length + ([] : List Keyword).length + (if ([] : List Keyword).isEmpty then 0 else 1) < 30)) = true := by rfl)
    (hline : (apos.endLine == cpos.line) = true := by rfl) (hs : starEach (e :: es) X.env = (false, eval e X.env) :: starEach es X.env := by rfl) (hplain : (backTo cpos (starEach es X.env)).any (·.1) = false := by rfl) :
    PE X (.Call (.Attribute o name apos) (e :: es) [] cpos) (low X.K W (dBML rd do_ das)) := pei (pe_bm PySem.F.plainAttrs_list slot hty hm ho ha hbase hfew hline hs hplain) (low_bmL hl)
/-! count of a bool -/
def rCntB (K : PySem.W.Frag) : V → List V → Hp → VK → Prop := fun x xs H Q => ∃ (p : Addr) (bs : List Bool) (b : Bool), x = .ref p ∧ xs = [.bl b] ∧ SqL K H p (bs.map V.bl) ∧ Q (.int (bs.count b : Nat)) H
theorem mt_cntB : MtR X "list.count" (rCntB X.K) := by
  intro pins s σ H x xs v us Q I rx rxs h
  obtain ⟨p, bs, b, rfl, rfl, hs, q⟩ := h
  cases rx
  obtain ⟨u, rfl, ru⟩ := rxs.one
  cases ru
  obtain ⟨its, rv, ⟨⟨cls, dd, data, sl⟩, n, ho, hc, hdn, hd⟩, hlen⟩ := I.list hs
  simp only at hc hd
  subst hc hd
  obtain rfl := Vals.bls rv
  refine call_meets PySem.F.slot_list_count ⟨_, ho, rfl⟩ PySem.F.entry_list_count (PySem.F.args_list_count_2 _ _) (SeqAt.list_countAt p _ n dd sl (.bool b) (fun v => match v with | .bool c => c == b | _ => false)) ⟨ho, fun y hy => ?_, ?_⟩
  · obtain ⟨c, hc, rfl⟩ := List.mem_map.mp (show y ∈ bs.map Value.bool by simpa using hy)
    exact SeqAt.EqAt.bool_bool c b
  · have ec : ∀ cs : List Bool, (cs.map Value.bool).countP (fun v => match v with | .bool c => c == b | _ => false) = cs.count b := fun cs => by
      rw [List.countP_map, List.count]
      rfl
    refine ⟨.int (bs.count b : Nat), H, I.tok _, ⟨s.toks, ?_⟩, q⟩
    show Value.int _ s.toks = Value.int _ s.toks
    rw [ec bs]
def rdCntB : RDM := fun x ds S Q => match ds with
  | [.bl b] => lstOf x S fun xs => ∃ bs : List Bool, xs = bs.map Dv.bl ∧ Q (.int (bs.count b : Nat)) S
  | _ => False
theorem l_cntB : LRM K (rCntB K) rdCntB := by
  intro x vs H d ds S Qh Q rx r hS h k
  unfold rdCntB at h
  split at h
  · obtain ⟨v, rfl, r1⟩ := one_i r
    obtain ⟨a, us, xs, rfl, hl, rl, bs, rfl, q⟩ := lstOf_i rx hS h
    exact ⟨a, bs, _, rfl, by rw [r1.i_bl], by rw [← rl.bls]; exact hl, k.now q (.int _) hS⟩
  · exact h.elim
/-! index of a flat thing -/
def rdIdxL : RDM := fun x ds S Q => match ds with
  | [y] => flatD y = true ∧ lstOf x S fun xs => xs.all flatD = true ∧ ∃ (j : Nat) (z : Dv), xs[j]? = some z ∧ eqvD z y = true ∧ (∀ m, m < j → ∀ w, xs[m]? = some w → eqvD w y = false) ∧ Q (.int (j : Nat)) S
  | _ => False
theorem all_v {H : Hp} : ∀ {us : List V} {xs : List Dv}, RepL K H us xs → xs.all flatD = true → us.all flatV = true
  | _, _, .nil, _ => rfl
  | _, _, .cons r1 l, e => by
    rw [List.all_cons, Bool.and_eq_true] at e
    rw [List.all_cons, flat_v r1 e.1, all_v l e.2]
    rfl
theorem repL_at {H : Hp} : ∀ {us : List V} {xs : List Dv}, RepL K H us xs → ∀ {j : Nat} {v : V}, us[j]? = some v → ∃ x, xs[j]? = some x ∧ Rep K H v x
  | _, _, .nil, _, _, e => by simp at e
  | _, _, .cons r1 l, 0, _, e => by
    obtain rfl := Option.some.inj e
    exact ⟨_, rfl, r1⟩
  | _, _, .cons r1 l, j + 1, _, e => repL_at l (j := j) e
theorem flat_get {xs : List Dv} (h : xs.all flatD = true) {j : Nat} {z : Dv} (e : xs[j]? = some z) : flatD z = true := List.all_eq_true.mp h z (List.mem_of_getElem? e)
theorem l_idxL : LRM K (rIndex K) rdIdxL := by
  intro x vs H d ds S Qh Q rx r hS h k
  unfold rdIdxL at h
  split at h
  · obtain ⟨v, rfl, r1⟩ := one_i r
    obtain ⟨fy, h⟩ := h
    obtain ⟨a, us, xs, rfl, hl, rl, fxs, j, z, ez, ee, hno, q⟩ := lstOf_i rx hS h
    obtain ⟨u, eu, ru⟩ := rl.get ez
    refine ⟨a, us, v, j, u, rfl, rfl, hl, flat_v r1 fy, all_v rl fxs, eu, by rw [eq_v ru r1 (flat_get fxs ez) fy]; exact ee, fun m w hm ew => ?_, k.now q (.int _) hS⟩
    obtain ⟨y, ey, ry⟩ := repL_at rl ew
    rw [eq_v ry r1 (flat_get fxs ey) fy]
    exact hno m hm y ey
  · exact h.elim
/-! ### xs[a:] = ys -/
theorem setItem_open {prog : Program} {w : World} {A : Around} {E : Value → Shared → Prop} {s : Shared} {l b sl : Addr} {items new : Array Value} {n n2 : Nat} {vl : Value} {a : Nat} {o2 : Obj} {Q : Unit → Shared → Prop}
    (e : s.heap.get? l = some { cls := .type "list", data := .seq items n }) (e2 : s.heap.get? b = some o2) (c2 : o2.cls = .type "list") (d2 : o2.data = .seq new n2) (hne : l ≠ b)
    (hs : s.heap.IsSliceOf sl vl .none .none) (pl : IsPart vl (some (a : Int))) (ha : a ≤ items.size) (hsz : items.size + new.size ≤ sizeLine)
    (h : Q () { s with heap := s.heap.update l (Obj.mapSeq fun xs => xs.extract 0 a ++ new ++ xs.extract items.size xs.size) }) :
    wpAny (model prog w) A (setItem (.ref l) (.ref sl) (.ref b)) Q E s := by
  have hl : s.heap.IsList l items := PySem.IsL.isList e
  have hb : s.heap.IsList b new := ⟨o2, e2, c2, n2, d2⟩
  obtain ⟨os, hos, hcs, hds⟩ := id hs
  have hTs : s.TypeIs (.ref sl) "slice" := ⟨os, hos, hcs⟩
  have hstep : ¬ ((rawPart none == rawInt 0) = true) := Bool.false_ne_true
  have hsame : Builtin.List.listSameRef (.ref l) (.ref b) = false := by
    unfold Builtin.List.listSameRef
    exact beq_eq_false_iff_ne.mpr hne
  have hmax : (max (a : Int) (items.size : Int)).toNat = items.size := by omega
  have hz' : ((fun xs : Array Value => xs.extract 0 a ++ new ++ xs.extract items.size xs.size) items).size ≤ sizeLine + 1 := by
    simp only [Array.size_append, Array.size_extract]
    omega
  have hbd : sliceBounds (some (a : Int)) none none items.size = ((a : Int), (items.size : Int), 1) := by
    simp only [sliceBounds, Option.getD_none]
    have h1 : ¬ ((a : Int) < 0) := by omega
    simp only [h1, if_false, show (1 : Int) > 0 by decide, if_true]
    congr 1
    omega
  unfold setItem
  try with_reducible refine wpAny_holding ?_
  first | refine wpAny_bind (wpAny_pure ?_) | skip
  refine wpAny_bind (wpAny_sequenceKey hl.typeIs (by decide) ?_)
  refine wpAny_bind (wpAny_callSpecial?_slot (name := Str.ofString "__setitem__") hl.typeIs slot_list_setitem (wpAny_call_entry slot_list_setitem hl.typeIs entry_list_setitem ?_ (args_list_setitem _ _ _)))
  show wpAny _ _ (Builtin.List.listSubscript? (.ref sl) >>= _) _ _ s
  refine wpAny_bind ?_
  unfold Builtin.List.listSubscript?
  refine wpAny_bind (wpAny_specialOf hTs slice_no_index ?_)
  simp only [Option.isNone_none, if_true]
  refine wpAny_pure ?_
  show wpAny _ _ (typeOf (.ref sl) >>= _) _ _ s
  refine wpAny_bind (wpAny_typeOf hTs ?_)
  first
    | rw [if_neg (by decide)]
    | refine PySem.W.KFB.if_not (by decide) ?_
  rw [listSliceParts_eq]
  refine wpAny_bind (wpAny_bind (wpAny_field hos hds (x := .none) rfl (wpAny_bind (wpAny_listPart .none ?_))))
  rw [if_neg hstep]
  refine wpAny_bind (wpAny_field hos hds (x := vl) rfl (wpAny_bind (wpAny_listPart pl ?_)))
  refine wpAny_bind (wpAny_field hos hds (x := .none) rfl (wpAny_bind (wpAny_listPart .none (wpAny_pure ?_))))
  first
    | simp only [hsame, Bool.false_eq_true, if_false]
    | refine PySem.W.KFB.if_not hsame ?_
    | (dsimp only
       rw [if_neg (by rw [hsame]; exact Bool.false_ne_true)])
  refine wpAny_bind (m := Builtin.List.listAllItems (.ref b) "must assign iterable to extended slice") ?_
  unfold Builtin.List.listAllItems
  refine wpAny_bind (wpAny_typeOf hb.typeIs ?_)
  first
    | refine PySem.W.KFB.if_so (by decide) ?_
    | rw [if_pos (by decide)]
    | simp only [beq_self_eq_true, Bool.true_or, if_true]
  unfold Builtin.List.listItems
  refine wpAny_bind (wpAny_seqItems e2 d2 (wpAny_pure ?_))
  refine wpAny_bind (wpAny_bind (wpAny_seqItems e rfl (wpAny_pure ?_)))
  refine wpAny_bind (wpAny_of_eq ((sliceIndices_raw (some (a : Int)) none none items.size (by simp)).trans (congrArg (pure : Int × Int × Int → Sem (Int × Int × Int)) hbd)) ?_)
  show wpAny _ _ (if ((1 : Int) == 1) = true then _ else _) _ _ s
  rw [if_pos (by decide)]
  refine wpAny_bind (wpAny_rule ?_)
  first
    | simp only [notLongL hsz, Bool.false_eq_true, if_false]
    | refine PySem.W.KFB.if_not (notLongL hsz) ?_
  first | refine wpAny_bind (wpAny_pure ?_) | skip
  show wpAny _ _ (updateSeq l (fun xs => xs.extract 0 ((a : Int)).toNat ++ new ++ xs.extract (max (a : Int) (items.size : Int)).toNat xs.size) >>= _) _ _ s
  rw [hmax, Int.toNat_natCast]
  refine wpAny_bind (wpAny_updateSeq (hz := Nat.le_trans (Nat.le_add_right _ _) hsz) (_hz' := hz') e rfl ?_)
  refine wpAny_bind (wpAny_letGo ?_)
  first
    | exact wpAny_bind (wpAny_pure (wpAny_pure ⟨.none, rfl, wpAny_pure h⟩))
    | exact wpAny_pure ⟨.none, rfl, wpAny_pure h⟩
def rSetOpen (K : PySem.W.Frag) (x v : V) (l : Option Int) (H : Hp) (Q : Hp → Prop) : Prop := ∃ (p b : Addr) (xs ys : List V) (a : Nat), x = .ref p ∧ v = .ref b ∧ l = some (a : Int) ∧ H p = some (.lst xs) ∧ CL K H b ys ∧ a ≤ xs.length ∧ xs.length + ys.length ≤ sizeLine ∧ Q (upd H p (.lst (xs.take a ++ ys)))
theorem pg_open {lo : Expr} {to : TE} {tl : TO} {p2 pos : Pos} (ho : PE X o to) (hl : PO X (some lo) tl)
    (ha : ∀ v, assign (.Subscript o (.Slice (some lo) none none p2) pos) X.env v = (do
      let ov ← holding [v] (eval o X.env)
      let iv ← holding [v, ov] (eval (.Slice (some lo) none none p2) X.env)
      standAt pos
      holding [v, ov, iv] (setItem ov iv v)
      release [iv, v, ov] []) := by intro _; rfl) :
    PG X (.Subscript o (.Slice (some lo) none none p2) pos) (fun v σ H Q => to σ H fun x H1 => tl σ H1 fun l H2 => rSetOpen X.K x v l H2 fun H3 => Q σ H3) := by
  refine ⟨fun pins s σ H v u Q I r h => ?_⟩
  rw [ha]
  refine wpAny_bind (wpAny_holding (thn (ho.run pins s σ H _ I h) fun ov s1 ⟨x, H1, I1, r1, q1⟩ => ?_))
  refine wpAny_bind (wpAny_holding (wpAny_Slice (thn (hl.run pins s1 σ H1 _ I1 q1) fun vl s2 ⟨l, H2, I2, pl, q2⟩ => ?_)))
  rw [evalPart_none]
  refine wpAny_pure (wpAny_pure ?_)
  obtain ⟨p, b, xs, ys, a, rfl, rfl, rfl, hp, hb, hle, hz, q⟩ := q2
  obtain rfl : ov = Value.ref p := r1
  obtain rfl : u = Value.ref b := r
  have I4 : L2.Inv X pins σ H2 { s2 with heap := s2.heap.push { cls := .type "slice", data := .fields #[vl, .none, .none] } } := I2.kept (t' := s2.toks) fun b ob q => Heap.get?_push_of_some _ q
  obtain ⟨z, its, n, rr, el, e⟩ := I4.lstM hp
  obtain ⟨its2, rv2, ⟨o2, n2, e2, c2, _, d2⟩, hz2⟩ := I4.list hb.sq
  have hne : p ≠ b := fun eq => by
    subst eq
    rcases hb with ⟨_, hb⟩ | ⟨its, n, hk, _⟩
    · rw [hp] at hb
      cases hb
    · have z := (I4.bs p _ (I4.ok.mod.kin p _ hk)).2
      rw [hp] at z
      cases z
  have l1 := rr.length
  have l2 := rv2.length
  refine wpAny_bind (wpAny_standAt (wpAny_bind (wpAny_holding (setItem_open e e2 c2 d2 hne (Heap.IsSliceOf.new ..) pl (by rw [List.size_toArray]; omega) (by rw [List.size_toArray, List.size_toArray]; omega) ?_))))
  refine wpAny_release ⟨σ, _, I4.lset (its' := its.take a ++ its2) (t' := s2.toks) hp e ?_ (Vals.append (rr.take _) rv2) ?_, q⟩
  · have z := splice_eq its its2 a its.toArray.size
    rw [List.drop_of_length_le (by simp), List.append_nil] at z
    exact z
  · rw [List.length_append, List.length_take]
    omega
def rdSetOpen (x : Dv) (l : Option Int) (d : Dv) (S : Sto) (Q : Sto → Prop) : Prop := match x, l, d with
  | .ref p, some i, .rol ys => match S p with
    | some (.lst xs) => (0 ≤ i ∧ i ≤ xs.length ∧ xs.length + ys.length ≤ sizeLine) ∧ Q (put S p (.lst (xs.take i.toNat ++ ys)))
    | _ => False
  | _, _, _ => False
def gOpenD (dO : DE) (dl : DO) : DG := fun d ρ S Q => dO ρ S (fun x S1 => dl ρ S1 (fun l S2 => rdSetOpen x l d S2 fun S3 => Q ρ S3) X0) X0
theorem g_open {lo : Expr} {dO : DE} {dl : DO} {p2 pos : Pos} (ho : PE X o (low X.K W dO)) (hl : PO X (some lo) (lowO X.K W dl))
    (ha : ∀ v, assign (.Subscript o (.Slice (some lo) none none p2) pos) X.env v = (do
      let ov ← holding [v] (eval o X.env)
      let iv ← holding [v, ov] (eval (.Slice (some lo) none none p2) X.env)
      standAt pos
      holding [v, ov, iv] (setItem ov iv v)
      release [iv, v, ov] []) := by intro _; rfl) : PG X (.Subscript o (.Slice (some lo) none none p2) pos) (lowG X.K (gOpenD dO dl)) := pgi (pg_open ho hl ha) fun v σ H Q ⟨d, ρ, S, Qh, r, hσ, hS, h, k⟩ => by
  refine ⟨ρ, S, _, X0, hσ, hS, h, fun d1 S1 v1 H1 q1 t1 r1 a1 => ⟨ρ, S1, _, X0, hσ.mono t1, a1, q1, fun l S2 H2 q2 t2 a2 => ?_, lx0⟩, lx0⟩
  simp only [rdSetOpen] at q2
  split at q2
  · rename_i p i ys
    split at q2
    · rename_i xs ep
      obtain ⟨⟨h1, h2, h3⟩, q⟩ := q2
      obtain ⟨us, hu, lu⟩ := a2 _ _ ep
      obtain ⟨b, vs, rfl, hb, lv⟩ := (r.mono (t1.trans t2)).i_rol
      have e1 := (r1.mono t2).i_ref
      obtain ⟨n, rfl⟩ := Int.eq_ofNat_of_zero_le h1
      have tw : Tk X.K H2 (upd H2 p (.lst (us.take n ++ vs))) := Tk.write hu wr_lst
      refine ⟨p, b, us, vs, n, e1, rfl, rfl, hu, hb, ?_, ?_, ?_⟩
      · rw [lu.length]
        omega
      · rw [lu.length, lv.length]
        exact h3
      · exact k ρ _ σ _ q ((t1.trans t2).trans tw) (hσ.mono ((t1.trans t2).trans tw)) (a2.write hu wr_lst (.mlst upd_same (((lu.take n).append lv).mono tw)))
    · exact q2.elim
  · exact q2.elim
end
end VD

/-! zip of a list and a tuple, either way (true: a list) -/
namespace VD
open PySem PySem.Spec PyProof.Rows L2
def ItK : Bool → Heap → Addr → Addr → Nat → Prop
  | true => Heap.IsListIter
  | false => Heap.IsTupleIter
def SqK : Bool → Heap → Addr → Array Value → Prop
  | true => Heap.IsList
  | false => Heap.IsTuple
def nmK : Bool → String
  | true => "list_iterator"
  | false => "tuple_iterator"
theorem ItK.ext {k : Bool} {h h' : Heap} {a b l : Addr} {i : Nat} (x : ItK k h a l i) (hs : Heap.ExtBut b h h') (hab : a ≠ b) : ItK k h' a l i := by
  cases k
  · exact Heap.IsTupleIter.extBut x hs hab
  · exact Heap.IsListIter.extBut x hs hab
theorem ItK.at {k : Bool} {h h' : Heap} {a l : Addr} {i : Nat} (x : ItK k h a l i) (hs : ∀ o, h.get? a = some o → h'.get? a = some o) : ItK k h' a l i := by
  cases k <;> exact (let ⟨o, ho, r⟩ := x; ⟨o, hs o ho, r⟩)
theorem ItK.ob {k : Bool} {h : Heap} {a l : Addr} {i : Nat} (x : ItK k h a l i) : ∃ o, h.get? a = some o ∧ ∀ v, o.data ≠ .cell v := by
  cases k <;> exact (let ⟨o, ho, _, hd⟩ := x; ⟨o, ho, fun v q => by rw [hd] at q; cases q⟩)
theorem SqK.at {k : Bool} {h h' : Heap} {a : Addr} {xs : Array Value} (x : SqK k h a xs) (hs : ∀ o, h.get? a = some o → h'.get? a = some o) : SqK k h' a xs := by
  cases k <;> exact (let ⟨o, ho, r⟩ := x; ⟨o, hs o ho, r⟩)
theorem SqK.ext {k : Bool} {h h' : Heap} {a b : Addr} {xs : Array Value} (x : SqK k h a xs) (hs : Heap.ExtBut b h h') (hab : a ≠ b) : SqK k h' a xs := x.at fun o e => hs a o hab e
theorem SqK.lt {k : Bool} {h : Heap} {a : Addr} {xs : Array Value} (x : SqK k h a xs) : a < h.objs.size := by
  cases k <;> exact (let ⟨o, ho, _⟩ := x; Heap.lt_size ho)
section
variable {prog : Program} {w : World} {A : Around} {E : Value → Shared → Prop} {s : Shared} {b c kb kc : Bool}
theorem nextK {it l : Addr} {i : Nat} {items : Array Value} {x : Value} {Q : Value → Shared → Prop} (hit : ItK b s.heap it l i) (hl : SqK b s.heap l items) (hx : items[i]? = some x)
    (hQ : ∀ h', ItK b h' it l (i + 1) → Heap.SameBut it s.heap h' → Q x { s with heap := h' }) : wpAny (model prog w) A (Builtin.SmallTypes.nextOf (.ref it)) Q E s := by
  cases b
  · exact RZ.nextOf_tuple_item hit hl hx hQ
  · exact wpAny_nextOf_list_item hit hl hx hQ
theorem nextK_end {it l : Addr} {i : Nat} {items : Array Value} {Q : Value → Shared → Prop} (hh : A.handled = none) (hit : ItK b s.heap it l i) (hl : SqK b s.heap l items) (hx : items[i]? = none)
    (hE : ∀ h' e, Heap.ExtBut it s.heap h' → (∃ o, h'.get? e = some o ∧ o.cls = .type "StopIteration") → E (.ref e) { s with heap := h' }) : wpAny (model prog w) A (Builtin.SmallTypes.nextOf (.ref it)) Q E s := by
  cases b
  · exact RZ.nextOf_tuple_end hh hit hl hx hE
  · exact wpAny_nextOf_list_end hh hit hl hx hE
theorem iterK {l : Addr} {items : Array Value} {Q : Value → Shared → Prop} (hl : SqK b s.heap l items) (hQ : Q (.ref s.heap.objs.size) { s with heap := s.heap.push { cls := .type (nmK b), data := .fields #[.ref l, .int 0 0] } }) : wpAny (model prog w) A (pyIter (.ref l)) Q E s := by
  cases b
  · exact wpAny_pyIter_tuple hl hQ
  · exact wpAny_pyIter_list hl hQ
theorem zipK_item {z TI TO i1 i2 l1 l2 : Addr} {k1 k2 : Nat} {xs ys : Array Value} {x y a b : Value} {Q : Value → Shared → Prop} (D : ZipApart z TI TO i1 i2 l1 l2)
    (hz : IsZip s.heap z TI TO .none) (hTI : IsPair s.heap TI (.ref i1) (.ref i2)) (hTO : IsPair s.heap TO a b)
    (h1 : ItK kb s.heap i1 l1 k1) (h2 : ItK kc s.heap i2 l2 k2) (hl1 : SqK kb s.heap l1 xs) (hl2 : SqK kc s.heap l2 ys) (hx : xs[k1]? = some x) (hy : ys[k2]? = some y)
    (hQ : ∀ h', IsZip h' z TI TO (rawInt s.heap.objs.size) → IsPair h' TO x y → ItK kb h' i1 l1 (k1 + 1) → ItK kc h' i2 l2 (k2 + 1) → IsPair h' s.heap.objs.size x y → h'.objs.size = s.heap.objs.size + 1 →
      (∀ c o, c ≠ z → c ≠ TO → c ≠ i1 → c ≠ i2 → s.heap.get? c = some o → h'.get? c = some o) → Q (.ref s.heap.objs.size) { s with heap := h' }) :
    wpAny (model prog w) A (Builtin.«zip.__next__» ⟨[.ref z], []⟩) (fun fin s' => ∃ v, fin = .done (.ret v) ∧ Q v s') E s := by
  show wpAny _ _ (field (.ref z) 2 >>= _) _ _ _
  refine wpAny_bind (wpAny_field hz rfl (x := .bool false) rfl ?_)
  show wpAny _ _ (field (.ref z) 3 >>= _) _ _ _
  refine wpAny_bind (wpAny_field hz rfl (x := .ref TI) rfl ?_)
  refine wpAny_bind (wpAny_seqItems hTI rfl ?_)
  show wpAny _ _ (Builtin.SmallTypes.ownedTupleIsFree (.ref z) >>= _) _ _ _
  refine wpAny_bind ?_
  unfold Builtin.SmallTypes.ownedTupleIsFree
  refine wpAny_bind (wpAny_field hz rfl (x := .none) rfl (wpAny_pure ?_))
  simp only [if_true]
  refine wpAny_bind (wpAny_rule ?_)
  refine wpAny_bind (wpAny_field hz rfl (x := .ref TO) rfl ?_)
  refine wpAny_bind (wpAny_setField_rec hz (by simp) fun h₁ hz₁ hs₁ => ?_)
  replace hz₁ : IsZip h₁ z TI TO .ellipsis := hz₁
  refine wpAny_bind ?_
  simp only [List.zipIdx_cons, List.zipIdx_nil, List.forIn_cons, List.forIn_nil]

  refine wpAny_bind (wpAny_bind (wpAny_onRaise ?_))
  show wpAny _ _ (Builtin.SmallTypes.nextOf (.ref i1) >>= _) _ _ _
  refine wpAny_bind (nextK (h1.ext hs₁.extBut D.i1z) (hl1.ext hs₁.extBut D.l1z) hx fun h₂ h1₂ hs₂ => wpAny_pure ?_)
  have hTO₂ : IsPair h₂ TO a b := hs₂.extBut _ _ D.TOi1 (hs₁.extBut _ _ D.TOz hTO)
  refine wpAny_bind (wpAny_seqItems hTO₂ rfl ?_)
  refine wpAny_bind (wpAny_updateSeq_pair hTO₂ fun h₃ hTO₃ hs₃ => ?_)
  replace hTO₃ : IsPair h₃ TO x b := hTO₃
  refine wpAny_bind (wpAny_letGo (wpAny_pure ?_))

  refine wpAny_bind (wpAny_bind (wpAny_onRaise ?_))
  show wpAny _ _ (Builtin.SmallTypes.nextOf (.ref i2) >>= _) _ _ _
  refine wpAny_bind (nextK (((h2.ext hs₁.extBut D.i2z).ext hs₂.extBut D.i12.symm).ext hs₃.extBut D.TOi2.symm)
    (((hl2.ext hs₁.extBut D.l2z).ext hs₂.extBut D.l2i1).ext hs₃.extBut D.l2TO) hy fun h₄ h2₄ hs₄ => wpAny_pure ?_)
  have hTO₄ : IsPair h₄ TO x b := hs₄.extBut _ _ D.TOi2 hTO₃
  refine wpAny_bind (wpAny_seqItems hTO₄ rfl ?_)
  refine wpAny_bind (wpAny_updateSeq_pair hTO₄ fun h₅ hTO₅ hs₅ => ?_)
  replace hTO₅ : IsPair h₅ TO x y := hTO₅
  refine wpAny_bind (wpAny_letGo (wpAny_pure (wpAny_pure ?_)))

  refine wpAny_bind (wpAny_seqItems hTO₅ rfl ?_)
  refine wpAny_bind (wpAny_newTuple ?_)
  have hsz : h₅.objs.size = s.heap.objs.size := by rw [hs₅.1, hs₄.1, hs₃.1, hs₂.1, hs₁.1]
  have hz₅ : IsZip h₅ z TI TO .ellipsis := hs₅.extBut _ _ D.TOz.symm (hs₄.extBut _ _ D.i2z.symm (hs₃.extBut _ _ D.TOz.symm (hs₂.extBut _ _ D.i1z.symm hz₁)))
  have hk₅ : ∀ c o, c ≠ z → c ≠ TO → c ≠ i1 → c ≠ i2 → s.heap.get? c = some o → h₅.get? c = some o := fun c o c1 c2 c3 c4 e =>
    hs₅.extBut _ _ c2 (hs₄.extBut _ _ c4 (hs₃.extBut _ _ c2 (hs₂.extBut _ _ c3 (hs₁.extBut _ _ c1 e))))
  have h1₅ : ItK kb h₅ i1 l1 (k1 + 1) := ((h1₂.ext hs₃.extBut D.TOi1.symm).ext hs₄.extBut D.i12).ext hs₅.extBut D.TOi1.symm
  have h2₅ : ItK kc h₅ i2 l2 (k2 + 1) := h2₄.ext hs₅.extBut D.TOi2.symm
  have hzlt : z < h₅.objs.size := Heap.lt_size hz₅
  have hTOlt : TO < h₅.objs.size := Heap.lt_size hTO₅
  have hi1lt : i1 < h₅.objs.size := by obtain ⟨_, e, _⟩ := h1₅.ob; exact Heap.lt_size e
  have hi2lt : i2 < h₅.objs.size := by obtain ⟨_, e, _⟩ := h2₅.ob; exact Heap.lt_size e
  show wpAny _ _ (Builtin.SmallTypes.ownedTupleHandOut (.ref z) (.ref h₅.objs.size) >>= _) _ _ _
  refine wpAny_bind ?_
  unfold Builtin.SmallTypes.ownedTupleHandOut
  have hz₆ : IsZip (h₅.push { cls := .type "tuple", data := .seq #[x, y] }) z TI TO .ellipsis := Heap.get?_push_of_some _ hz₅
  refine wpAny_bind (wpAny_setField_rec hz₆ (by simp) fun h₇ hz₇ hs₇ => ?_)
  replace hz₇ : IsZip h₇ z TI TO (rawInt h₅.objs.size) := hz₇
  refine wpAny_setField_rec hz₇ (by simp) fun h₈ hz₈ hs₈ => ?_
  replace hz₈ : IsZip h₈ z TI TO (rawInt h₅.objs.size) := hz₈
  have up : ∀ c o, c ≠ z → h₅.get? c = some o → h₈.get? c = some o := fun c o c1 e => hs₈.extBut _ _ c1 (hs₇.extBut _ _ c1 (Heap.get?_push_of_some _ e))
  have hT₈ : IsPair h₈ h₅.objs.size x y := hs₈.extBut _ _ (Nat.ne_of_gt hzlt) (hs₇.extBut _ _ (Nat.ne_of_gt hzlt) (Heap.get?_push_size _ rfl))
  have hz8 : h₈.objs.size = h₅.objs.size + 1 := by rw [hs₈.1, hs₇.1, Heap.size_push]
  rw [hsz] at hz₈ hT₈ hz8
  refine wpAny_pure ⟨_, rfl, ?_⟩
  show Q (.ref h₅.objs.size) _
  rw [hsz]
  exact hQ h₈ hz₈ (up _ _ D.TOz hTO₅) (h1₅.at fun o e => up _ o D.i1z e) (h2₅.at fun o e => up _ o D.i2z e) hT₈ hz8 fun c o c1 c2 c3 c4 e => up c o c1 (hk₅ c o c1 c2 c3 c4 e)

theorem zipK_end {z TI TO i1 i2 l1 l2 : Addr} {k1 k2 : Nat} {xs ys : Array Value} {a b : Value} {Q : Fin → Shared → Prop} (hh : A.handled = none) (D : ZipApart z TI TO i1 i2 l1 l2)
    (hz : IsZip s.heap z TI TO .none) (hTI : IsPair s.heap TI (.ref i1) (.ref i2)) (hTO : IsPair s.heap TO a b)
    (h1 : ItK kb s.heap i1 l1 k1) (h2 : ItK kc s.heap i2 l2 k2) (hl1 : SqK kb s.heap l1 xs) (hl2 : SqK kc s.heap l2 ys) (hend : xs[k1]? = none ∨ ys[k2]? = none)
    (hE : ∀ h' e, (∀ c o, c ≠ z → c ≠ TO → c ≠ i1 → c ≠ i2 → s.heap.get? c = some o → h'.get? c = some o) → (∃ o, h'.get? e = some o ∧ o.cls = .type "StopIteration") → E (.ref e) { s with heap := h' }) :
    wpAny (model prog w) A (Builtin.«zip.__next__» ⟨[.ref z], []⟩) Q E s := by
  show wpAny _ _ (field (.ref z) 2 >>= _) _ _ _
  refine wpAny_bind (wpAny_field hz rfl (x := .bool false) rfl ?_)
  show wpAny _ _ (field (.ref z) 3 >>= _) _ _ _
  refine wpAny_bind (wpAny_field hz rfl (x := .ref TI) rfl ?_)
  refine wpAny_bind (wpAny_seqItems hTI rfl ?_)
  show wpAny _ _ (Builtin.SmallTypes.ownedTupleIsFree (.ref z) >>= _) _ _ _
  refine wpAny_bind ?_
  unfold Builtin.SmallTypes.ownedTupleIsFree
  refine wpAny_bind (wpAny_field hz rfl (x := .none) rfl (wpAny_pure ?_))
  simp only [if_true]
  refine wpAny_bind (wpAny_rule ?_)
  refine wpAny_bind (wpAny_field hz rfl (x := .ref TO) rfl ?_)
  refine wpAny_bind (wpAny_setField_rec hz (by simp) fun h₁ hz₁ hs₁ => ?_)
  replace hz₁ : IsZip h₁ z TI TO .ellipsis := hz₁
  refine wpAny_bind ?_
  simp only [List.zipIdx_cons, List.zipIdx_nil, List.forIn_cons, List.forIn_nil]
  refine wpAny_bind (wpAny_bind (wpAny_onRaise ?_))
  show wpAny _ _ (Builtin.SmallTypes.nextOf (.ref i1) >>= _) _ _ _
  cases hx : xs[k1]? with
  | none =>
    refine wpAny_bind (nextK_end hh (h1.ext hs₁.extBut D.i1z) (hl1.ext hs₁.extBut D.l1z) hx fun h₂ e hs₂ he => ?_)
    obtain ⟨oe, hoe, hce⟩ := he
    have hz₂ : IsZip h₂ z TI TO .ellipsis := hs₂ _ _ D.i1z.symm hz₁
    have hez : e ≠ z := fun x => by subst x; rw [hz₂] at hoe; cases hoe; simp at hce
    refine wpAny_setField_rec hz₂ (by simp) fun h₃ _ hs₃ => hE h₃ e (fun c o c1 _ c3 _ x => hs₃.extBut _ _ c1 (hs₂ _ _ c3 (hs₁.extBut _ _ c1 x))) ⟨oe, hs₃.extBut _ _ hez hoe, hce⟩
  | some x =>
    have hy : ys[k2]? = none := by rcases hend with h | h; rw [hx] at h; cases h; exact h
    refine wpAny_bind (nextK (h1.ext hs₁.extBut D.i1z) (hl1.ext hs₁.extBut D.l1z) hx fun h₂ h1₂ hs₂ => wpAny_pure ?_)
    have hTO₂ : IsPair h₂ TO a b := hs₂.extBut _ _ D.TOi1 (hs₁.extBut _ _ D.TOz hTO)
    refine wpAny_bind (wpAny_seqItems hTO₂ rfl ?_)
    refine wpAny_bind (wpAny_updateSeq_pair hTO₂ fun h₃ hTO₃ hs₃ => ?_)
    refine wpAny_bind (wpAny_letGo (wpAny_pure ?_))
    refine wpAny_bind (wpAny_bind (wpAny_onRaise ?_))
    show wpAny _ _ (Builtin.SmallTypes.nextOf (.ref i2) >>= _) _ _ _
    refine wpAny_bind (nextK_end hh (((h2.ext hs₁.extBut D.i2z).ext hs₂.extBut D.i12.symm).ext hs₃.extBut D.TOi2.symm)
      (((hl2.ext hs₁.extBut D.l2z).ext hs₂.extBut D.l2i1).ext hs₃.extBut D.l2TO) hy fun h₄ e hs₄ he => ?_)
    obtain ⟨oe, hoe, hce⟩ := he
    have hz₄ : IsZip h₄ z TI TO .ellipsis := hs₄ _ _ D.i2z.symm (hs₃.extBut _ _ D.TOz.symm (hs₂.extBut _ _ D.i1z.symm hz₁))
    have hez : e ≠ z := fun x => by subst x; rw [hz₄] at hoe; cases hoe; simp at hce
    refine wpAny_setField_rec hz₄ (by simp) fun h₅ _ hs₅ => hE h₅ e (fun c o c1 c2 c3 c4 x => hs₅.extBut _ _ c1 (hs₄ _ _ c4 (hs₃.extBut _ _ c2 (hs₂.extBut _ _ c3 (hs₁.extBut _ _ c1 x))))) ⟨oe, hs₅.extBut _ _ hez hoe, hce⟩

theorem pyK_item {z TI TO i1 i2 l1 l2 : Addr} {k1 k2 : Nat} {xs ys : Array Value} {x y a b : Value} {Q : Option Value → Shared → Prop} (D : ZipApart z TI TO i1 i2 l1 l2)
    (hz : IsZip s.heap z TI TO .none) (hTI : IsPair s.heap TI (.ref i1) (.ref i2)) (hTO : IsPair s.heap TO a b)
    (h1 : ItK kb s.heap i1 l1 k1) (h2 : ItK kc s.heap i2 l2 k2) (hl1 : SqK kb s.heap l1 xs) (hl2 : SqK kc s.heap l2 ys) (hx : xs[k1]? = some x) (hy : ys[k2]? = some y)
    (hQ : ∀ h', IsZip h' z TI TO (rawInt s.heap.objs.size) → IsPair h' TO x y → ItK kb h' i1 l1 (k1 + 1) → ItK kc h' i2 l2 (k2 + 1) → IsPair h' s.heap.objs.size x y → h'.objs.size = s.heap.objs.size + 1 →
      (∀ c o, c ≠ z → c ≠ TO → c ≠ i1 → c ≠ i2 → s.heap.get? c = some o → h'.get? c = some o) → Q (some (.ref s.heap.objs.size)) { s with heap := h' }) :
    wpAny (model prog w) A (pyNext (.ref z)) Q E s := by
  have hT : s.TypeIs (.ref z) "zip" := ⟨_, hz, rfl⟩
  unfold pyNext
  exact wpAny_bind (wpAny_attempt (wpAny_callSpecial?_slot (name := Str.ofString "__next__") hT F.slot_zip_next
    (wpAny_call_entry F.slot_zip_next hT F.entry_zip_next
      (zipK_item D hz hTI hTO h1 h2 hl1 hl2 hx hy fun h' a1 a2 a3 a4 a5 a6 a7 => wpAny_pure (hQ h' a1 a2 a3 a4 a5 a6 a7)) (F.args_zip_next_1 _))))

theorem pyK_end {z TI TO i1 i2 l1 l2 : Addr} {k1 k2 : Nat} {xs ys : Array Value} {a b : Value} {Q : Option Value → Shared → Prop} (hh : A.handled = none) (D : ZipApart z TI TO i1 i2 l1 l2)
    (hz : IsZip s.heap z TI TO .none) (hTI : IsPair s.heap TI (.ref i1) (.ref i2)) (hTO : IsPair s.heap TO a b)
    (h1 : ItK kb s.heap i1 l1 k1) (h2 : ItK kc s.heap i2 l2 k2) (hl1 : SqK kb s.heap l1 xs) (hl2 : SqK kc s.heap l2 ys) (hend : xs[k1]? = none ∨ ys[k2]? = none)
    (hQ : ∀ h', (∀ c o, c ≠ z → c ≠ TO → c ≠ i1 → c ≠ i2 → s.heap.get? c = some o → h'.get? c = some o) → Q none { s with heap := h' }) : wpAny (model prog w) A (pyNext (.ref z)) Q E s := by
  have hT : s.TypeIs (.ref z) "zip" := ⟨_, hz, rfl⟩
  unfold pyNext
  refine wpAny_bind (wpAny_attempt (wpAny_callSpecial?_slot (name := Str.ofString "__next__") hT F.slot_zip_next
    (wpAny_call_entry F.slot_zip_next hT F.entry_zip_next (zipK_end hh D hz hTI hTO h1 h2 hl1 hl2 hend fun h' e hk he => ?_) (F.args_zip_next_1 _))))
  obtain ⟨o, ho, hc⟩ := he
  refine wpAny_bind (wpAny_isInstance (T := "StopIteration") (b := true) ⟨o, ho, hc⟩ isSubtype_stop ?_)
  exact wpAny_pure (hQ _ hk)
end


section
variable {prog : Program} {w : World} {A : Around} {E : Value → Shared → Prop} {s : Shared} {b c : Bool}
abbrev zK1 (b : Bool) (h : Heap) (l1 : Addr) : Heap := h.push { cls := .type (nmK b), data := .fields #[.ref l1, .int 0 0] }
abbrev zK2 (b c : Bool) (h : Heap) (l1 l2 : Addr) : Heap := (zK1 b h l1).push { cls := .type (nmK c), data := .fields #[.ref l2, .int 0 0] }
abbrev zK3 (b c : Bool) (h : Heap) (l1 l2 : Addr) : Heap := (zK2 b c h l1 l2).push { cls := .type "tuple", data := .seq #[.ref h.objs.size, .ref (zK1 b h l1).objs.size] }
abbrev zK4 (b c : Bool) (h : Heap) (l1 l2 : Addr) : Heap := (zK3 b c h l1 l2).push { cls := .type "tuple", data := .seq #[.none, .none] }
abbrev zK5 (b c : Bool) (h : Heap) (l1 l2 : Addr) : Heap := (zK4 b c h l1 l2).push { cls := .type "zip", data := .fields #[.none, .bool false, .bool false, .ref (zK2 b c h l1 l2).objs.size, .ref (zK3 b c h l1 l2).objs.size] }
end
theorem meets_zipK (b c : Bool) (l1 l2 : Addr) (xs ys : Array Value) :
    Meets (Builtin.«zip.__new__» ⟨[.type "zip", .ref l1, .ref l2], []⟩) (fun _ R s => SqK b s.heap l1 xs ∧ SqK c s.heap l2 ys ∧ R (.ok (.ret (.ref (zK4 b c s.heap l1 l2).objs.size))) { s with heap := zK5 b c s.heap l1 l2 }) :=
  .of_wp fun prog w A R s h => by
    obtain ⟨hp, g, d, tk, os⟩ := s; obtain ⟨hl1, hl2, h⟩ := h
    have hsub := sub_zip
    have hL1 : SqK b (Shared.heap ⟨hp, g, d, tk, os⟩) l1 xs := hl1
    have hL2 : SqK c (Shared.heap ⟨hp.push { cls := .type (nmK b), data := .fields #[.ref l1, .int 0 0] }, g, d, tk, os⟩) l2 ys := hl2.at fun o e => Heap.get?_push_of_some _ e
    wp_walk using iterK hL1, iterK hL2
    exact ⟨_, rfl, h⟩
section
variable {prog : Program} {w : World} {A : Around} {E : Value → Shared → Prop} {s : Shared} {b c : Bool}
theorem it0K {h : Heap} {k : Bool} {i l : Addr} (e : h.get? i = some { cls := .type (nmK k), data := .fields #[.ref l, .int 0 0] }) : ItK k h i l 0 := by
  cases k <;> exact ⟨_, e, rfl, rfl⟩
theorem call_zipK {l1 l2 : Addr} {xs ys : Array Value} {Q : Value → Shared → Prop} (hl1 : SqK b s.heap l1 xs) (hl2 : SqK c s.heap l2 ys)
    (h : ∀ h', IsZip h' (s.heap.objs.size + 4) (s.heap.objs.size + 2) (s.heap.objs.size + 3) .none → IsPair h' (s.heap.objs.size + 2) (.ref s.heap.objs.size) (.ref (s.heap.objs.size + 1)) →
      IsPair h' (s.heap.objs.size + 3) .none .none → ItK b h' s.heap.objs.size l1 0 → ItK c h' (s.heap.objs.size + 1) l2 0 → h'.objs.size = s.heap.objs.size + 5 →
      (∀ c o, s.heap.get? c = some o → h'.get? c = some o) → Q (.ref (s.heap.objs.size + 4)) { s with heap := h' }) :
    wpAny (model prog w) A (call (.type "zip") [.ref l1, .ref l2]) Q E s := by
  refine callType_new F.called_zip (by decide) (F.typeCall_zip_2 _ _) (F.newCall_zip_2 _ _) (fun obj => F.args_object_init_3 obj _ _) F.entry_zip_new (meets_zipK b c l1 l2 xs ys) ⟨hl1, hl2, ?_⟩
  have z1 : (zK1 b s.heap l1).objs.size = s.heap.objs.size + 1 := Heap.size_push ..
  have z2 : (zK2 b c s.heap l1 l2).objs.size = s.heap.objs.size + 2 := by rw [Heap.size_push, z1]
  have z3 : (zK3 b c s.heap l1 l2).objs.size = s.heap.objs.size + 3 := by rw [Heap.size_push, z2]
  have z4 : (zK4 b c s.heap l1 l2).objs.size = s.heap.objs.size + 4 := by rw [Heap.size_push, z3]
  have z5 : (zK5 b c s.heap l1 l2).objs.size = s.heap.objs.size + 5 := by rw [Heap.size_push, z4]
  have up : ∀ {h : Heap} {o : Obj} {x : Addr} {p : Obj}, h.get? x = some o → (h.push p).get? x = some o := fun e => Heap.get?_push_of_some _ e
  have g5 : (zK5 b c s.heap l1 l2).get? (zK4 b c s.heap l1 l2).objs.size = some _ := Heap.get?_push_size _ rfl
  have g4 : (zK5 b c s.heap l1 l2).get? (zK3 b c s.heap l1 l2).objs.size = some _ := up (Heap.get?_push_size _ rfl)
  have g3 : (zK5 b c s.heap l1 l2).get? (zK2 b c s.heap l1 l2).objs.size = some _ := up (up (Heap.get?_push_size _ rfl))
  have g2 : (zK5 b c s.heap l1 l2).get? (zK1 b s.heap l1).objs.size = some _ := up (up (up (Heap.get?_push_size _ rfl)))
  have g1 : (zK5 b c s.heap l1 l2).get? s.heap.objs.size = some _ := up (up (up (up (Heap.get?_push_size _ rfl))))
  show _ ∧ _
  rw [z2, z3, z4] at g5
  rw [z1, z2] at g3
  rw [z3] at g4
  rw [z1] at g2
  rw [z4]
  exact ⟨⟨_, g5, rfl⟩, h _ g5 g3 g4 (it0K g1) (it0K g2) z5 fun c o x => up (up (up (up (up x))))⟩
end
/-! ### the judgement -/
def SeqK (K : PySem.W.Frag) : Bool → Hp → Addr → List V → Prop
  | true => SqL K
  | false => SqT K
def IzK (K : PySem.W.Frag) (b c : Bool) (p q : Addr) : It :=
  ⟨fun i H => ∃ (xs ys : List V) (x y : V), SeqK K b H p xs ∧ SeqK K c H q ys ∧ xs[i]? = some x ∧ ys[i]? = some y,
    fun i H v H' => ∃ T x y, v = .ref T ∧ H T = none ∧ H' = upd H T (.tup [x, y]) ∧ (∀ xs, SeqK K b H p xs → xs[i]? = some x) ∧ ∀ ys, SeqK K c H q ys → ys[i]? = some y,
    fun i H => ∃ xs ys : List V, SeqK K b H p xs ∧ SeqK K c H q ys ∧ (xs.length ≤ i ∨ ys.length ≤ i)⟩
section
variable {X : Cx} {pins : List (Addr × Obj)} {σ : L2.St} {H : Hp} {s : Shared} {k : Bool}
theorem Inv.seqK (I : L2.Inv X pins σ H s) {a : Addr} {xs : List V} (h : SeqK X.K k H a xs) : ∃ its : List Value, Vals xs its ∧ SqK k s.heap a its.toArray := by
  cases k
  · obtain ⟨its, r, p, _⟩ := I.tuple h
    exact ⟨its, r, p⟩
  · obtain ⟨its, r, p, _⟩ := I.list h
    exact ⟨its, r, p.isList⟩
theorem Inv.seqK_inj (I : L2.Inv X pins σ H s) {a : Addr} {xs ys : List V} (h : SeqK X.K k H a xs) (h' : SeqK X.K k H a ys) : xs = ys := by
  cases k
  · exact I.tuple_inj h h'
  · exact I.list_inj h h'
end
theorem turn_zipK {P : Program} {w : World} {K : PySem.W.Frag} {elts : List Expr} {kk : Nat} {tpos : Pos} {b c : Bool} {p q z TI TO i1 i2 : Addr} (D : ZipApart z TI TO i1 i2 p q) :
    Turn P w K (.Tuple elts kk tpos) (IzK K b c p q) [z, TI, TO, i1, i2] z (fun i h => IsZip h z TI TO .none ∧ IsPair h TI (.ref i1) (.ref i2) ∧ (∃ x y, IsPair h TO x y) ∧ ItK b h i1 p i ∧ ItK c h i2 q i) where
  mem := by simp
  obj := fun i h st d hc => by
    obtain ⟨hz, hTI, ⟨x, y, hTO⟩, h1, h2⟩ := st
    have e' : d = z ∨ d = TI ∨ d = TO ∨ d = i1 ∨ d = i2 := by simpa using hc
    rcases e' with rfl | rfl | rfl | rfl | rfl
    · exact ⟨_, hz, fun v q => nomatch q⟩
    · exact ⟨_, hTI, fun v q => nomatch q⟩
    · exact ⟨_, hTO, fun v q => nomatch q⟩
    · exact h1.ob
    · exact h2.ob
  keep := fun i h h' st k => by
    obtain ⟨hz, hTI, ⟨x, y, hTO⟩, h1, h2⟩ := st
    exact ⟨k z (by simp) _ hz, k TI (by simp) _ hTI, ⟨x, y, k TO (by simp) _ hTO⟩, h1.at fun o q => k i1 (by simp) o q, h2.at fun o q => k i2 (by simp) o q⟩
  item := by
    intro X hP hw hK hc i pins s σ H E I hf st hg
    subst hP hw hK
    obtain ⟨hz, hTI, ⟨x0, y0, hTO⟩, h1, h2⟩ := st
    obtain ⟨xs, ys, x, y, hqx, hqy, hx, hy⟩ := hg
    obtain ⟨its, rv, p1⟩ := Inv.seqK I hqx
    obtain ⟨its2, rv2, p2⟩ := Inv.seqK I hqy
    obtain ⟨u, hu, ru⟩ := rv.get hx
    obtain ⟨u2, hu2, ru2⟩ := rv2.get hy
    have hzl : z < s.heap.objs.size := Heap.lt_size hz
    refine pyK_item D hz hTI hTO h1 h2 p1 p2 (x := u) (y := u2) (by simpa using hu) (by simpa using hu2) fun h' z' TO' h1' h2' hT hsz hk => ?_
    refine ⟨_, rfl, wpAny_letOwnedTupleGo_zip (s := { s with heap := h' }) z' fun h'' z'' sb => ?_⟩
    have hT2 : h''.get? s.heap.objs.size = some { cls := .type "tuple", data := .seq #[u, u2] } := (sb.2 _ (Nat.ne_of_gt hzl)).trans hT
    have new : ObjOk X.prog X.w (upd H s.heap.objs.size (.tup [x, y])) h'' s.heap.objs.size (.tup [x, y]) := ⟨by show 2 ≤ sizeLine; decide, [u, u2], .cons ru (.cons ru2 .nil), ⟨_, hT2, rfl, _, rfl⟩⟩
    have I1 : L2.Inv X pins σ (upd H s.heap.objs.size (.tup [x, y])) { s with heap := h'' } :=
      I.turnedNew (t' := s.toks) (ch := [z, TI, TO, i1, i2]) (fun d o hb q => (sb.2 d (fun q' => hb (by simp [q']))).trans (hk d o (fun q' => hb (by simp [q'])) (fun q' => hb (by simp [q'])) (fun q' => hb (by simp [q'])) (fun q' => hb (by simp [q'])) q)) hf (Nat.le_refl _) new
    refine ⟨.ref s.heap.objs.size, _, I1, rfl, ⟨_, x, y, rfl, I.hok.fresh (Nat.le_refl _), rfl, fun l hl => by rw [Inv.seqK_inj I hl hqx]; exact hx, fun l hl => by rw [Inv.seqK_inj I hl hqy]; exact hy⟩, ⟨z'', ?_, ⟨u, u2, ?_⟩, ?_, ?_⟩, fun d hcm => ?_⟩
    · exact (sb.2 _ D.TIz).trans (hk _ _ D.TIz D.TITO D.TIi1 D.TIi2 hTI)
    · exact (sb.2 _ D.TOz).trans TO'
    · exact h1'.at fun o q => (sb.2 _ D.i1z).trans q
    · exact h2'.at fun o q => (sb.2 _ D.i2z).trans q
    · have hlt : d < s.heap.objs.size := by
        have e' : d = z ∨ d = TI ∨ d = TO ∨ d = i1 ∨ d = i2 := by simpa using hcm
        rcases e' with rfl | rfl | rfl | rfl | rfl
        · exact hzl
        · exact Heap.lt_size hTI
        · exact Heap.lt_size hTO
        · obtain ⟨_, e, _⟩ := h1.ob; exact Heap.lt_size e
        · obtain ⟨_, e, _⟩ := h2.ob; exact Heap.lt_size e
      rw [upd_ne (Nat.ne_of_lt hlt)]
      exact (hf d hcm).1
  done := by
    intro X hP hw hK hc i pins s σ H E I hf st hg
    subst hP hw hK
    obtain ⟨hz, hTI, ⟨x0, y0, hTO⟩, h1, h2⟩ := st
    obtain ⟨xs, ys, hqx, hqy, hend⟩ := hg
    obtain ⟨its, rv, p1⟩ := Inv.seqK I hqx
    obtain ⟨its2, rv2, p2⟩ := Inv.seqK I hqy
    have l1 := rv.length
    have l2 := rv2.length
    have he : its.toArray[i]? = none ∨ its2.toArray[i]? = none := hend.elim (fun q => .inl (by simp; omega)) fun q => .inr (by simp; omega)
    exact pyK_end (I.ok.hd hc) D hz hTI hTO h1 h2 p1 p2 he fun h' hk => ⟨rfl, I.turnedL (t' := s.toks) (ch := [z, TI, TO, i1, i2]) (fun d o hb q =>
      hk d o (fun q' => hb (by simp [q'])) (fun q' => hb (by simp [q'])) (fun q' => hb (by simp [q'])) (fun q' => hb (by simp [q'])) q) hf⟩
  self := fun A i s Q E st h => wpAny_pyIter_zip st.1 h
def iZipR (K : PySem.W.Frag) (ta : TA) : TI := fun σ H R => ta σ H fun vs H1 => ∃ b c p q xs ys, vs = [.ref p, .ref q] ∧ SeqK K b H1 p xs ∧ SeqK K c H1 q ys ∧ R (IzK K b c p q) H1
theorem pi_zipR {X : Cx} {e e2 : Expr} {ta : TA} {p pos tpos : Pos} {elts : List Expr} {kk : Nat} (hg : Gl X "zip") (hm : X.mg "zip" = none) (ha : PA X [e, e2] ta)
    (hs : starEach [e, e2] X.env = (false, eval e X.env) :: starEach [e2] X.env := by rfl) (hpl : (backTo pos (starEach [e2] X.env)).any (·.1) = false := by rfl) :
    PI X (.Tuple elts kk tpos) (.Call (.Name "zip" p) [e, e2] [] pos) (iZipR X.K ta) := by
  refine ⟨fun pins s σ H R I h => ?_⟩
  refine Call_ (ld_blt I hg hm PyProof.Rows.boot_zip (PyProof.Rows.callWith_type1 (thn (ha.run pos pins s σ H _ I h) fun us s1 ⟨vs, H1, I1, r1, q1⟩ => ?_) hs hpl))
  obtain ⟨b, c, p, q, xs, ys, ex, hqx, hqy, q1⟩ := q1
  subst ex
  cases r1 with
  | cons r rr =>
    cases rr with
    | cons r' rr =>
      cases rr
      cases r
      cases r'
      have fresh5 : ∀ d, d ∈ [s1.heap.objs.size + 4, s1.heap.objs.size + 2, s1.heap.objs.size + 3, s1.heap.objs.size, s1.heap.objs.size + 1] → FpOk X pins H1 d := fun d hcm => by
        have hle : s1.heap.objs.size ≤ d := by
          have e' : d = s1.heap.objs.size + 4 ∨ d = s1.heap.objs.size + 2 ∨ d = s1.heap.objs.size + 3 ∨ d = s1.heap.objs.size ∨ d = s1.heap.objs.size + 1 := by simpa using hcm
          rcases e' with z | z | z | z | z <;> rw [z] <;> first | exact Nat.le_add_right _ _ | exact Nat.le_refl _
        exact I1.fpOk hle (I1.hok.fresh hle)
      obtain ⟨its, rv, p1⟩ := Inv.seqK I1 hqx
      obtain ⟨its2, rv2, p2⟩ := Inv.seqK I1 hqy
      refine call_zipK p1 p2 fun h' hz hTI hTO h1 h2 hsz hk => wpAny_pyIter_zip hz ?_
      have I2 : L2.Inv X pins σ H1 { s1 with heap := h' } := I1.kept (t' := s1.toks) hk
      exact ⟨s1.heap.objs.size + 4, [s1.heap.objs.size + 4, s1.heap.objs.size + 2, s1.heap.objs.size + 3, s1.heap.objs.size, s1.heap.objs.size + 1], _, _, H1, rfl, I2, turn_zipK (PySem.W.ktu_apart s1.heap.objs.size p q p1.lt p2.lt), ⟨hz, hTI, ⟨_, _, hTO⟩, h1, h2⟩, fresh5, q1⟩
/-! ### over readings -/
def isQ (d : Dv) (S : Sto) (xs : List Dv) : Prop := match d with
  | .tup zs => zs = xs
  | d => isL d S xs
def kindD : Dv → Bool
  | .tup _ => false
  | _ => true
theorem seq_at {K : PySem.W.Frag} {H0 H : Hp} {S : Sto} {v : V} {d : Dv} {ds : List Dv} (r : Rep K H0 v d) (t : Tk K H0 H) (ha : Abs K H S) (s : isQ d S ds) : ∃ p ws, v = .ref p ∧ SeqK K (kindD d) H p ws ∧ RepL K H ws ds := by
  cases d with
  | tup zs =>
    obtain rfl : zs = ds := s
    obtain ⟨p, ws, rfl, hl, rl⟩ := (r.mono t).i_tup
    exact ⟨p, ws, rfl, hl, rl⟩
  | _ => exact lst_at r t ha s
def iZipM (das : DA) : DI := fun ρ S R X => das ρ S (fun ds S1 => match ds with
  | [d, e] => ∃ xs ys, isQ d S1 xs ∧ isQ e S1 ys ∧ R (pairs xs ys) (fun S => isQ d S xs ∧ isQ e S ys) S1
  | _ => False) X
theorem it_zipM {K : PySem.W.Frag} {H0 : Hp} {a b : Addr} {dx dy : Dv} {xs ys : List Dv} (r1 : Rep K H0 (.ref a) dx) (r2 : Rep K H0 (.ref b) dy) :
    ItD K H0 (IzK K (kindD dx) (kindD dy) a b) (pairs xs ys) (fun S => isQ dx S xs ∧ isQ dy S ys) := by
  refine ⟨fun i H S z t ha st hz => ?_, fun H S t ha st => ?_⟩
  · obtain ⟨x, y, ex, ey, rfl⟩ := pairs_get hz
    obtain ⟨p, ws, e1, hl1, l1⟩ := seq_at r1 t ha st.1
    obtain ⟨p', ws', e1', hl2, l2⟩ := seq_at r2 t ha st.2
    cases e1; cases e1'
    obtain ⟨v, ev, rv⟩ := l1.get ex
    obtain ⟨u, eu, ru⟩ := l2.get ey
    refine ⟨⟨ws, ws', v, u, hl1, hl2, ev, eu⟩, fun q H' ⟨T, x', y', e1, e2, e3, e4, e5⟩ => ?_⟩
    subst e1 e3
    have g1 := e4 ws hl1
    have g2 := e5 ws' hl2
    rw [ev] at g1; rw [eu] at g2
    cases g1; cases g2
    exact ⟨Tk.new e2, rep2 e2 rv ru, ha.tup e2⟩
  · obtain ⟨p, ws, e1, hl1, l1⟩ := seq_at r1 t ha st.1
    obtain ⟨p', ws', e1', hl2, l2⟩ := seq_at r2 t ha st.2
    cases e1; cases e1'
    refine ⟨ws, ws', hl1, hl2, ?_⟩
    rw [pairs_len, ← l1.length, ← l2.length]
    omega
theorem i_zipM {X : Cx} {W : WX} {e e2 : Expr} {das : DA} {p pos tpos : Pos} {elts : List Expr} {kk : Nat} (hm : X.mg "zip" = none) (ha : PA X [e, e2] (lowA X.K W das)) (hg : Gl X "zip" := by rfl) (hs : starEach [e, e2] X.env = (false, eval e X.env) :: starEach [e2] X.env := by rfl) (hpl : (backTo pos (starEach [e2] X.env)).any (·.1) = false := by rfl) :
    PI X (.Tuple elts kk tpos) (.Call (.Name "zip" p) [e, e2] [] pos) (lowI X.K W (iZipM das)) := pii (pi_zipR hg hm ha hs hpl) fun σ H R ⟨ρ, S, Rh, Xh, hσ, hS, h, k, x⟩ => by
  refine ⟨ρ, S, _, Xh, hσ, hS, h, fun ds S1 vs H1 q t r a => ?_, x⟩
  dsimp only at q
  split at q
  · rename_i d1 d2
    obtain ⟨v, u, rfl, r1, r2⟩ := two_i r
    obtain ⟨xs, ys, s1, s2, q⟩ := q
    obtain ⟨c, us, rfl, hc, lc⟩ := seq_at r1 (Tk.refl H1) a s1
    obtain ⟨d, ws, rfl, hd, ld⟩ := seq_at r2 (Tk.refl H1) a s2
    exact ⟨_, _, c, d, us, ws, rfl, hc, hd, k _ _ S1 _ H1 q t a (it_zipM r1 r2)⟩
  · exact q.elim
end VD

namespace Lw
open PySem PySem.Spec PyProof.Rows L2 VD
theorem revInd {α : Type} {motive : List α → Prop} (nil : motive []) (snoc : ∀ xs x, motive xs → motive (xs ++ [x])) (xs : List α) : motive xs := by
  have h : ∀ n (xs : List α), xs.length = n → motive xs := by
    intro n
    induction n with
    | zero => intro xs h; obtain rfl := List.length_eq_zero_iff.mp h; exact nil
    | succ n ih =>
      intro xs h
      rcases List.eq_nil_or_concat xs with rfl | ⟨ys, y, rfl⟩
      · exact nil
      · rw [List.concat_eq_append] at h ⊢
        exact snoc ys y (ih ys (by simpa using h))
  exact h _ xs rfl
theorem rdIx_tup {xs : List Dv} {i : Int} {S : Sto} {Q : QD} : rdIx (.tup xs) (.int i) S Q = ∃ d, atI xs i = some d ∧ Q d S := rfl
theorem rdIx_rol {xs : List Dv} {i : Int} {S : Sto} {Q : QD} : rdIx (.rol xs) (.int i) S Q = ∃ d, atI xs i = some d ∧ Q d S := rfl
theorem rdIx_ref {xs : List Dv} {a : Addr} {i : Int} {S : Sto} {Q : QD} (h : S a = some (.lst xs)) : rdIx (.ref a) (.int i) S Q = ∃ d, atI xs i = some d ∧ Q d S := by
  unfold rdIx
  dsimp only
  rw [h]
theorem ix_ref {xs : List Dv} {a : Addr} {i : Int} {S : Sto} {Q : QD} {d : Dv} (h : S a = some (.lst xs)) (e : atI xs i = some d) (q : Q d S) : rdIx (.ref a) (.int i) S Q := by
  rw [rdIx_ref h]
  exact ⟨d, e, q⟩
theorem isn_non : VD.isNon .non = true := rfl
theorem isn_bl {b : Bool} : VD.isNon (.bl b) = false := rfl
theorem isn_int {b : Int} : VD.isNon (.int b) = false := rfl
theorem isn_str {b : Str} : VD.isNon (.str b) = false := rfl
theorem isn_ref {b : Addr} : VD.isNon (.ref b) = false := rfl
theorem isn_tup {b : List Dv} : VD.isNon (.tup b) = false := rfl
theorem isn_rol {b : List Dv} : VD.isNon (.rol b) = false := rfl
theorem isn_obj {C : Addr} {ns : List Str} {b : List Dv} : VD.isNon (.obj C ns b) = false := rfl
section
variable {xs : List Dv} {a : Addr} {i : Int} {S : Sto} {Q : QD} {z : Str} {R : List Dv → Prop}
theorem rdIx_put : rdIx (.ref a) (.int i) (put S a (.lst xs)) Q = ∃ d, atI xs i = some d ∧ Q d (put S a (.lst xs)) := rdIx_ref put_same
theorem rdLen_tup : rdLen [.tup xs] S Q = Q (.int xs.length) S := rfl
theorem rdLen_rol : rdLen [.rol xs] S Q = Q (.int xs.length) S := rfl
theorem rdLen_str : rdLen [.str z] S Q = (z.length ≤ sizeLine ∧ Q (.int z.length) S) := rfl
theorem rdLen_ref (h : S a = some (.lst xs)) : rdLen [.ref a] S Q = Q (.int xs.length) S := by unfold rdLen; dsimp only; rw [h]
theorem rdLen_put : rdLen [.ref a] (put S a (.lst xs)) Q = Q (.int xs.length) (put S a (.lst xs)) := rdLen_ref put_same
theorem lstOf_rol : lstOf (.rol xs) S R = R xs := rfl
theorem lstOf_ref (h : S a = some (.lst xs)) : lstOf (.ref a) S R = R xs := by unfold lstOf; dsimp only; rw [h]
theorem lstOf_put : lstOf (.ref a) (put S a (.lst xs)) R = R xs := lstOf_ref put_same
theorem seqOf_tup : seqOf (.tup xs) S R = R xs := rfl
theorem seqOf_rol : seqOf (.rol xs) S R = R xs := rfl
theorem seqOf_ref (h : S a = some (.lst xs)) : seqOf (.ref a) S R = R xs := by unfold seqOf; dsimp only; rw [h]
theorem seqOf_put : seqOf (.ref a) (put S a (.lst xs)) R = R xs := seqOf_ref put_same
theorem insOf_ref {C dx : Addr} {fs : List (Str × Dv)} {R : Addr → List Str → List Dv → Prop} (h : S a = some (.ins C dx fs)) : insOf (.ref a) S R = R C (fs.map (·.1)) (fs.map (·.2)) := by unfold insOf; dsimp only; rw [h]
theorem insOf_put {C dx : Addr} {fs : List (Str × Dv)} {R : Addr → List Str → List Dv → Prop} : insOf (.ref a) (put S a (.ins C dx fs)) R = R C (fs.map (·.1)) (fs.map (·.2)) := insOf_ref put_same
theorem frz_tup : frzD (.tup xs) S Q = Q (.tup xs) S := rfl
theorem frz_rol : frzD (.rol xs) S Q = Q (.rol xs) S := rfl
theorem frz_int : frzD (.int i) S Q = Q (.int i) S := rfl
theorem frz_bl {b : Bool} : frzD (.bl b) S Q = Q (.bl b) S := rfl
theorem frz_non : frzD .non S Q = Q .non S := rfl
theorem frz_str : frzD (.str z) S Q = Q (.str z) S := rfl
theorem frz_obj {C : Addr} {ns : List Str} : frzD (.obj C ns xs) S Q = Q (.obj C ns xs) S := rfl
end
/-- a list at its end: frozen, and gone from the store -/
theorem frz_new {xs : List Dv} {a : Addr} {S : Sto} {Q : QD} (h : S a = none) (q : Q (.rol xs) S) : frzD (.ref a) (put S a (.lst xs)) Q := by
  unfold frzD
  dsimp only
  rw [put_same, rm_put h]
  exact q
theorem tup_new {xs : List Dv} {a : Addr} {S : Sto} {Q : QD} (h : S a = none) (q : Q (.tup xs) S) : rdTuple [.ref a] (put S a (.lst xs)) Q := by
  unfold rdTuple seqOf
  dsimp only
  rw [put_same]
  exact ⟨S, Sub.new h, q⟩
theorem tup_rol {xs : List Dv} {S : Sto} {Q : QD} (q : Q (.tup xs) S) : rdTuple [.rol xs] S Q := ⟨S, Sub.refl S, q⟩
theorem tup_tup {xs : List Dv} {S : Sto} {Q : QD} (q : Q (.tup xs) S) : rdTuple [.tup xs] S Q := ⟨S, Sub.refl S, q⟩
theorem all_rol {bs : List Bool} {S : Sto} {Q : QD} (q : Q (.bl (bs.all id)) S) : rdAll [.rol (bs.map Dv.bl)] S Q := ⟨bs, rfl, S, Sub.refl S, q⟩
theorem any_rol {bs : List Bool} {S : Sto} {Q : QD} (q : Q (.bl (bs.any id)) S) : rdAny [.rol (bs.map Dv.bl)] S Q := ⟨bs, rfl, S, Sub.refl S, q⟩
theorem sl2 : 2 ≤ sizeLine := by rw [sizeLine_eq]; decide
theorem slK {n : Nat} (h : n ≤ 1000000 := by decide) : n ≤ sizeLine := by rw [sizeLine_eq]; omega
/-! ### kinds of things -/
section
variable (A : Ad)
def known (S : Sto) (d : Dv) : Prop := ∃ t, tyD S d = some t ∧ ∀ C, t = .ref C → C ∈ A.ot.cs
end
section
variable {A : Ad}
theorem tyD_sub {S T : Sto} {d : Dv} {t : Value} (h : tyD S d = some t) (s : Sub S T) : tyD T d = some t := by
  cases d with
  | ref a =>
    dsimp only [tyD] at h ⊢
    cases e : S a with
    | none => rw [e] at h; cases h
    | some m => rw [s a m e]; rw [e] at h; exact h
  | _ => exact h
theorem known.sub {S T : Sto} {d : Dv} (h : known A S d) (s : Sub S T) : known A T d := by
  obtain ⟨t, h1, h2⟩ := h
  exact ⟨t, tyD_sub h1 s, h2⟩
theorem kn_non {S : Sto} : known A S .non := ⟨_, rfl, fun _ e => by cases e⟩
theorem kn_bl {S : Sto} {b : Bool} : known A S (.bl b) := ⟨_, rfl, fun _ e => by cases e⟩
theorem kn_int {S : Sto} {b : Int} : known A S (.int b) := ⟨_, rfl, fun _ e => by cases e⟩
theorem kn_str {S : Sto} {b : Str} : known A S (.str b) := ⟨_, rfl, fun _ e => by cases e⟩
theorem kn_tup {S : Sto} {b : List Dv} : known A S (.tup b) := ⟨_, rfl, fun _ e => by cases e⟩
theorem kn_rol {S : Sto} {b : List Dv} : known A S (.rol b) := ⟨_, rfl, fun _ e => by cases e⟩
theorem kn_rod {S : Sto} {k : List Key} {b : List Dv} : known A S (.rod k b) := ⟨_, rfl, fun _ e => by cases e⟩
/-- plain: by value and of no own class -/
def isPl : Dv → Bool
  | .non | .bl _ | .int _ | .str _ | .tup _ | .rol _ | .rod _ _ => true
  | _ => false
theorem kn_pl {S : Sto} {d : Dv} (h : isPl d = true) : known A S d := by
  cases d <;> first | (cases h; done) | exact ⟨_, rfl, fun _ e => by cases e⟩
def isInt : Dv → Bool
  | .int _ => true
  | _ => false
def isBl : Dv → Bool
  | .bl _ => true
  | _ => false
def isTup : Dv → Bool
  | .tup _ => true
  | _ => false
def isStr : Dv → Bool
  | .str _ => true
  | _ => false
/-- one class of the built-in ones -/
theorem isi_of {S : Sto} {d : Dv} {n : String} {Q : QD} {b : Bool} (h : known A S d) (hn : tyNames.contains n = true) (hb : ∀ t, tyD S d = some (.type t) → isiB t n = b) (ho : ∀ C, tyD S d = some (.ref C) → b = false) (q : Q (.bl b) S) : rdIsi A.ot [d, .ty n] S Q := by
  obtain ⟨t, h1, h2⟩ := h
  unfold rdIsi
  rcases tyD_in h1 with ⟨m, hm, rfl⟩ | ⟨C, rfl⟩
  · refine ⟨_, _, h1, .bb m n hn, ?_⟩
    rw [hb m h1]
    exact q
  · refine ⟨_, _, h1, .ob C n (h2 C rfl) hn, ?_⟩
    rw [← ho C h1]
    exact q
theorem tyD_ref {S : Sto} {a : Addr} {t : String} (h : tyD S (.ref a) = some (.type t)) : t = "list" ∨ t = "dict" := by
  dsimp only [tyD] at h
  split at h
  · cases h; exact .inl rfl
  · cases h; exact .inr rfl
  · cases h
  · cases h
theorem isi_int {S : Sto} {d : Dv} {Q : QD} (h : known A S d) (q : Q (.bl (isInt d || isBl d)) S) : rdIsi A.ot [d, .ty "int"] S Q := isi_of h (by decide) (fun t ht => by
  cases d with
  | ref a => rcases tyD_ref ht with rfl | rfl <;> rfl
  | ty n => cases ht
  | _ => cases ht <;> rfl) (fun C ht => by cases d <;> first | (cases ht; done) | rfl) q
theorem isi_bool {S : Sto} {d : Dv} {Q : QD} (h : known A S d) (q : Q (.bl (isBl d)) S) : rdIsi A.ot [d, .ty "bool"] S Q := isi_of h (by decide) (fun t ht => by
  cases d with
  | ref a => rcases tyD_ref ht with rfl | rfl <;> rfl
  | ty n => cases ht
  | _ => cases ht <;> rfl) (fun C ht => by cases d <;> first | (cases ht; done) | rfl) q
theorem isi_tuple {S : Sto} {d : Dv} {Q : QD} (h : known A S d) (q : Q (.bl (isTup d)) S) : rdIsi A.ot [d, .ty "tuple"] S Q := isi_of h (by decide) (fun t ht => by
  cases d with
  | ref a => rcases tyD_ref ht with rfl | rfl <;> rfl
  | ty n => cases ht
  | _ => cases ht <;> rfl) (fun C ht => by cases d <;> first | (cases ht; done) | rfl) q
theorem isi_str {S : Sto} {d : Dv} {Q : QD} (h : known A S d) (q : Q (.bl (isStr d)) S) : rdIsi A.ot [d, .ty "str"] S Q := isi_of h (by decide) (fun t ht => by
  cases d with
  | ref a => rcases tyD_ref ht with rfl | rfl <;> rfl
  | ty n => cases ht
  | _ => cases ht <;> rfl) (fun C ht => by cases d <;> first | (cases ht; done) | rfl) q
/-- a tuple or a list -/
def isSeq (S : Sto) : Dv → Bool
  | .tup _ | .rol _ => true
  | .ref a => match S a with
    | some (.lst _) => true
    | _ => false
  | _ => false
theorem isi_two {S : Sto} {d : Dv} {n1 n2 : String} {Q : QD} {b : Bool} (h : known A S d) (hn : tyNames.contains n1 = true) (hn2 : tyNames.contains n2 = true) (hb : ∀ t, tyD S d = some (.type t) → (isiB t n1 || isiB t n2) = b) (ho : ∀ C, tyD S d = some (.ref C) → b = false) (q : Q (.bl b) S) :
    rdIsi A.ot [d, .tup [.ty n1, .ty n2]] S Q := by
  obtain ⟨t, h1, h2⟩ := h
  unfold rdIsi
  rcases tyD_in h1 with ⟨m, hm, rfl⟩ | ⟨C, rfl⟩
  · refine ⟨_, _, h1, .cons (.bb m n1 hn) (.cons (.bb m n2 hn2) .nil), (fun _ e => by cases e), ?_⟩
    rw [Bool.or_false, hb m h1]
    exact q
  · refine ⟨_, _, h1, .cons (.ob C n1 (h2 C rfl) hn) (.cons (.ob C n2 (h2 C rfl) hn2) .nil), h2, ?_⟩
    rw [ho C h1] at q
    exact q
theorem isSeq_of {S : Sto} {d : Dv} (h : known A S d) : (∀ t, tyD S d = some (.type t) → (isiB t "list" || isiB t "tuple") = isSeq S d) ∧ ∀ C, tyD S d = some (.ref C) → isSeq S d = false := by
  refine ⟨fun t ht => ?_, fun C ht => ?_⟩
  · cases d with
    | ref a =>
      dsimp only [tyD] at ht
      unfold isSeq
      split at ht <;> first | (cases ht; done) | (rename_i e; cases ht; dsimp only; rw [e]; rfl)
    | ty n => cases ht
    | _ => cases ht <;> rfl
  · cases d with
    | ref a =>
      dsimp only [tyD] at ht
      unfold isSeq
      split at ht <;> first | (cases ht; done) | (rename_i e; dsimp only; rw [e])
    | _ => first | (cases ht; done) | rfl
theorem isi_lt {S : Sto} {d : Dv} {Q : QD} (h : known A S d) (q : Q (.bl (isSeq S d)) S) : rdIsi A.ot [d, .tup [.ty "list", .ty "tuple"]] S Q := isi_two h (by decide) (by decide) (isSeq_of h).1 (isSeq_of h).2 q
theorem isi_tl {S : Sto} {d : Dv} {Q : QD} (h : known A S d) (q : Q (.bl (isSeq S d)) S) : rdIsi A.ot [d, .tup [.ty "tuple", .ty "list"]] S Q := isi_two h (by decide) (by decide) (fun t ht => by rw [Bool.or_comm]; exact (isSeq_of h).1 t ht) (isSeq_of h).2 q
end
/-! ### checks -/
def sp_is_integer (A : Ad) : SpD := fun ds S Q _ => ∃ d, ds = [d] ∧ known A S d ∧ Q (.bl (isInt d)) S
theorem len_is_integer (A : Ad) : ∀ ds S Q X, sp_is_integer A ds S Q X → ds.length = 1 := by rintro _ _ _ _ ⟨_, rfl, _⟩; rfl
def r_is_integer (A : Ad) : DS := (dRet (dAndV (dCB (rdIsi A.ot) (dCons (dVar 0) (dCons (dC (.ty "int")) dNil))) (dNotV (dCB (rdIsi A.ot) (dCons (dVar 0) (dCons (dC (.ty "bool")) dNil))))))
theorem rd_is_integer (A : Ad) : Rd (r_is_integer A) 1 (sp_is_integer A) := by
  rintro ds S Q X ⟨d, rfl, hk, h⟩
  unfold r_is_integer
  simp only [dSeq, dAsg, dRet, dRetN, dDrop, dRaise, dBreak, dCont, dPar, dAug, dFor, dNext, dSetF, dAugF, dRaiseF, dIfS, dTest, dOp, dVar, dC, dCB, dCons, dNil, dCall, dAndV, dOrV, dNotV, dAndT, dOrT, dNotT, dIf, dTup, dLst, dLstV, dSl, dSlV, rdSlV, oSome, oNone, dNeg, gN, gT, gConsD, gNilD, gSubD, gFldD, dChain, dLc, dBM, isLst, iSeqD, iR1, iR2, iR3, dYes, rdAddV, rdMulV, rdSub, rdDiv, rdMod, rdPow, rdIAdd, rdCmp, rdIsN, isn_non, isn_bl, isn_int, isn_str, isn_ref, isn_tup, isn_rol, isn_obj, rdEqG, rdIx_tup, rdIx_rol, rdIx_put, rdSet, rdLen_tup, rdLen_rol, rdLen_str, rdLen_put, rdInt1, rdInt, rdInt2, rdAppend, rdExt, rdPopAt, rdMaxL, rdMinL, rdListV, rdIsB, isBlV, rdStrI, rdIntS, dFrz, dFld, insOf_put, dMeth, lstOf_rol, lstOf_put, seqOf_tup, seqOf_rol, seqOf_put, frz_tup, frz_rol, frz_int, frz_bl, frz_non, frz_str, frz_obj, startN, wipeD, List.map_cons, List.map_nil, List.length_cons, List.length_nil, Nat.zero_add, Nat.sub_self, Nat.reduceAdd, Nat.reduceSub, List.replicate_succ, List.replicate_zero, List.cons_append, List.nil_append, List.append_nil, List.getElem?_cons_zero, List.getElem?_cons_succ, List.set_cons_zero, List.set_cons_succ, Option.some.injEq, exists_eq_left', DEnds.xd, atI_0, atI_1, atI_2, atI_3, atI_4, atI_5, atI_6, atI_7, ixN_50, ixN_51, ixN_52, ixN_53, ixN_54, ixN_30, ixN_31, ixN_32, put_same, put_put, true_and, and_true, decide_true, decide_false, Bool.not_true, Bool.not_false, Bool.false_eq_true, if_true, if_false, decide_eq_true_eq, Bool.not_eq_true', decide_eq_false_iff_not, mem_one, ex_one, and_self]
  refine isi_int hk ?_
  cases e : (isInt d || isBl d) with
  | true =>
    refine isi_bool hk ?_
    cases d <;> first | exact h | simp [isInt, isBl] at e
  | false =>
    cases d <;> first | exact h | simp [isInt, isBl] at e
def within (d : Dv) (a b : Int) : Bool := match d with
  | .int i => decide (a ≤ i) && decide (i ≤ b)
  | _ => false
theorem within_i {d : Dv} {a b : Int} : within d a b = true ↔ ∃ i, d = .int i ∧ a ≤ i ∧ i ≤ b := by
  cases d <;> simp [within]
def sp_is_within (A : Ad) : SpD := fun ds S Q _ => ∃ d a b, ds = [d, .int a, .int b] ∧ known A S d ∧ Q (.bl (within d a b)) S
theorem len_is_within (A : Ad) : ∀ ds S Q X, sp_is_within A ds S Q X → ds.length = 3 := by rintro _ _ _ _ ⟨_, _, _, rfl, _⟩; rfl
def r_is_within (A : Ad) : DS := (dRet (dAndV (dCall (sp_is_integer A) (dCons (dVar 0) dNil)) (dChain rdLe rdLe (dVar 1) (dVar 0) (dVar 2))))
theorem rd_is_within (A : Ad) : Rd (r_is_within A) 3 (sp_is_within A) := by
  rintro ds S Q X ⟨d, a, b, rfl, hk, h⟩
  unfold r_is_within
  simp only [dSeq, dAsg, dRet, dRetN, dDrop, dRaise, dBreak, dCont, dPar, dAug, dFor, dNext, dSetF, dAugF, dRaiseF, dIfS, dTest, dOp, dVar, dC, dCB, dCons, dNil, dCall, dAndV, dOrV, dNotV, dAndT, dOrT, dNotT, dIf, dTup, dLst, dLstV, dSl, dSlV, rdSlV, oSome, oNone, dNeg, gN, gT, gConsD, gNilD, gSubD, gFldD, dChain, dLc, dBM, isLst, iSeqD, iR1, iR2, iR3, dYes, rdAddV, rdMulV, rdSub, rdDiv, rdMod, rdPow, rdIAdd, rdCmp, rdIsN, isn_non, isn_bl, isn_int, isn_str, isn_ref, isn_tup, isn_rol, isn_obj, rdEqG, rdIx_tup, rdIx_rol, rdIx_put, rdSet, rdLen_tup, rdLen_rol, rdLen_str, rdLen_put, rdInt1, rdInt, rdInt2, rdAppend, rdExt, rdPopAt, rdMaxL, rdMinL, rdListV, rdIsB, isBlV, rdStrI, rdIntS, dFrz, dFld, insOf_put, dMeth, lstOf_rol, lstOf_put, seqOf_tup, seqOf_rol, seqOf_put, frz_tup, frz_rol, frz_int, frz_bl, frz_non, frz_str, frz_obj, startN, wipeD, List.map_cons, List.map_nil, List.length_cons, List.length_nil, Nat.zero_add, Nat.sub_self, Nat.reduceAdd, Nat.reduceSub, List.replicate_succ, List.replicate_zero, List.cons_append, List.nil_append, List.append_nil, List.getElem?_cons_zero, List.getElem?_cons_succ, List.set_cons_zero, List.set_cons_succ, Option.some.injEq, exists_eq_left', DEnds.xd, atI_0, atI_1, atI_2, atI_3, atI_4, atI_5, atI_6, atI_7, ixN_50, ixN_51, ixN_52, ixN_53, ixN_54, ixN_30, ixN_31, ixN_32, put_same, put_put, true_and, and_true, decide_true, decide_false, Bool.not_true, Bool.not_false, Bool.false_eq_true, if_true, if_false, decide_eq_true_eq, Bool.not_eq_true', decide_eq_false_iff_not, mem_one, ex_one, and_self]
  refine ⟨d, rfl, hk, ?_⟩
  cases d with
  | int i =>
    unfold within at h
    unfold isInt
    dsimp only
    simp only [dSeq, dAsg, dRet, dRetN, dDrop, dRaise, dBreak, dCont, dPar, dAug, dFor, dNext, dSetF, dAugF, dRaiseF, dIfS, dTest, dOp, dVar, dC, dCB, dCons, dNil, dCall, dAndV, dOrV, dNotV, dAndT, dOrT, dNotT, dIf, dTup, dLst, dLstV, dSl, dSlV, rdSlV, oSome, oNone, dNeg, gN, gT, gConsD, gNilD, gSubD, gFldD, dChain, dLc, dBM, isLst, iSeqD, iR1, iR2, iR3, dYes, rdAddV, rdMulV, rdSub, rdDiv, rdMod, rdPow, rdIAdd, rdCmp, rdIsN, isn_non, isn_bl, isn_int, isn_str, isn_ref, isn_tup, isn_rol, isn_obj, rdEqG, rdIx_tup, rdIx_rol, rdIx_put, rdSet, rdLen_tup, rdLen_rol, rdLen_str, rdLen_put, rdInt1, rdInt, rdInt2, rdAppend, rdExt, rdPopAt, rdMaxL, rdMinL, rdListV, rdIsB, isBlV, rdStrI, rdIntS, dFrz, dFld, insOf_put, dMeth, lstOf_rol, lstOf_put, seqOf_tup, seqOf_rol, seqOf_put, frz_tup, frz_rol, frz_int, frz_bl, frz_non, frz_str, frz_obj, startN, wipeD, List.map_cons, List.map_nil, List.length_cons, List.length_nil, Nat.zero_add, Nat.sub_self, Nat.reduceAdd, Nat.reduceSub, List.replicate_succ, List.replicate_zero, List.cons_append, List.nil_append, List.append_nil, List.getElem?_cons_zero, List.getElem?_cons_succ, List.set_cons_zero, List.set_cons_succ, Option.some.injEq, exists_eq_left', DEnds.xd, atI_0, atI_1, atI_2, atI_3, atI_4, atI_5, atI_6, atI_7, ixN_50, ixN_51, ixN_52, ixN_53, ixN_54, ixN_30, ixN_31, ixN_32, put_same, put_put, true_and, and_true, decide_true, decide_false, Bool.not_true, Bool.not_false, Bool.false_eq_true, if_true, if_false, decide_eq_true_eq, Bool.not_eq_true', decide_eq_false_iff_not, mem_one, ex_one, and_self]
    by_cases h1 : a ≤ i
    · simp only [h1, decide_true, Bool.true_and] at h ⊢
      exact h
    · simp only [h1, decide_false, Bool.false_and] at h ⊢
      exact h
  | _ => exact h
def sp_is_below (A : Ad) : SpD := fun ds S Q _ => ∃ d n, ds = [d, .int n] ∧ known A S d ∧ Q (.bl (within d 0 (n - 1))) S
theorem len_is_below (A : Ad) : ∀ ds S Q X, sp_is_below A ds S Q X → ds.length = 2 := by rintro _ _ _ _ ⟨_, _, rfl, _⟩; rfl
def r_is_below (A : Ad) : DS := (dRet (dCall (sp_is_within A) (dCons (dVar 0) (dCons (dC (.int 0)) (dCons (dOp rdSub (dVar 1) (dC (.int 1))) dNil)))))
theorem rd_is_below (A : Ad) : Rd (r_is_below A) 2 (sp_is_below A) := by
  rintro ds S Q X ⟨d, n, rfl, hk, h⟩
  unfold r_is_below
  simp only [dSeq, dAsg, dRet, dRetN, dDrop, dRaise, dBreak, dCont, dPar, dAug, dFor, dNext, dSetF, dAugF, dRaiseF, dIfS, dTest, dOp, dVar, dC, dCB, dCons, dNil, dCall, dAndV, dOrV, dNotV, dAndT, dOrT, dNotT, dIf, dTup, dLst, dLstV, dSl, dSlV, rdSlV, oSome, oNone, dNeg, gN, gT, gConsD, gNilD, gSubD, gFldD, dChain, dLc, dBM, isLst, iSeqD, iR1, iR2, iR3, dYes, rdAddV, rdMulV, rdSub, rdDiv, rdMod, rdPow, rdIAdd, rdCmp, rdIsN, isn_non, isn_bl, isn_int, isn_str, isn_ref, isn_tup, isn_rol, isn_obj, rdEqG, rdIx_tup, rdIx_rol, rdIx_put, rdSet, rdLen_tup, rdLen_rol, rdLen_str, rdLen_put, rdInt1, rdInt, rdInt2, rdAppend, rdExt, rdPopAt, rdMaxL, rdMinL, rdListV, rdIsB, isBlV, rdStrI, rdIntS, dFrz, dFld, insOf_put, dMeth, lstOf_rol, lstOf_put, seqOf_tup, seqOf_rol, seqOf_put, frz_tup, frz_rol, frz_int, frz_bl, frz_non, frz_str, frz_obj, startN, wipeD, List.map_cons, List.map_nil, List.length_cons, List.length_nil, Nat.zero_add, Nat.sub_self, Nat.reduceAdd, Nat.reduceSub, List.replicate_succ, List.replicate_zero, List.cons_append, List.nil_append, List.append_nil, List.getElem?_cons_zero, List.getElem?_cons_succ, List.set_cons_zero, List.set_cons_succ, Option.some.injEq, exists_eq_left', DEnds.xd, atI_0, atI_1, atI_2, atI_3, atI_4, atI_5, atI_6, atI_7, ixN_50, ixN_51, ixN_52, ixN_53, ixN_54, ixN_30, ixN_31, ixN_32, put_same, put_put, true_and, and_true, decide_true, decide_false, Bool.not_true, Bool.not_false, Bool.false_eq_true, if_true, if_false, decide_eq_true_eq, Bool.not_eq_true', decide_eq_false_iff_not, mem_one, ex_one, and_self]
  exact ⟨d, 0, n - 1, rfl, hk, h⟩
/-! ### rows -/
theorem all_map {xs : List Dv} {f : Dv → Bool} : xs.map (fun x => Dv.bl (f x)) = (xs.map f).map Dv.bl := by rw [List.map_map]; rfl
/-- a tuple whose items are known -/
def knownL (A : Ad) (S : Sto) (d : Dv) : Prop := known A S d ∧ match d with
  | .tup xs => ∀ x ∈ xs, known A S x
  | _ => True
def allT (m : Nat) (f : Dv → Bool) (d : Dv) : Bool := match d with
  | .tup xs => decide ((xs.length : Int) ≤ m) && xs.all f
  | _ => false
def isRow (d : Dv) : Bool := allT 300000 (fun x => within x 0 255) d
def sp_is_row (A : Ad) : SpD := fun ds S Q _ => ∃ d, ds = [d] ∧ knownL A S d ∧ Q (.bl (isRow d)) S
theorem len_is_row (A : Ad) : ∀ ds S Q X, sp_is_row A ds S Q X → ds.length = 1 := by rintro _ _ _ _ ⟨_, rfl, _⟩; rfl
def r_is_row (A : Ad) : DS := (dRet (dAndV (dCB (rdIsi A.ot) (dCons (dVar 0) (dCons (dC (.ty "tuple")) dNil))) (dAndV (dOp rdLe (dCB rdLen (dCons (dVar 0) dNil)) (dC (.int 300000))) (dCB rdAll (dCons (dFrz (dLc (iSeqD (dVar 0)) (gN 1) dYes (dCall (sp_is_below A) (dCons (dVar 1) (dCons (dC (.int 256)) dNil))) [1])) dNil)))))
theorem rd_is_row (A : Ad) : Rd (r_is_row A) 2 (sp_is_row A) := by
  rintro ds S Q X ⟨d, rfl, ⟨hk, hl⟩, h⟩
  unfold r_is_row
  simp only [dSeq, dAsg, dRet, dRetN, dDrop, dRaise, dBreak, dCont, dPar, dAug, dFor, dNext, dSetF, dAugF, dRaiseF, dIfS, dTest, dOp, dVar, dC, dCB, dCons, dNil, dCall, dAndV, dOrV, dNotV, dAndT, dOrT, dNotT, dIf, dTup, dLst, dLstV, dSl, dSlV, rdSlV, oSome, oNone, dNeg, gN, gT, gConsD, gNilD, gSubD, gFldD, dChain, dLc, dBM, isLst, iSeqD, iR1, iR2, iR3, dYes, rdAddV, rdMulV, rdSub, rdDiv, rdMod, rdPow, rdIAdd, rdCmp, rdIsN, isn_non, isn_bl, isn_int, isn_str, isn_ref, isn_tup, isn_rol, isn_obj, rdEqG, rdIx_tup, rdIx_rol, rdIx_put, rdSet, rdLen_tup, rdLen_rol, rdLen_str, rdLen_put, rdInt1, rdInt, rdInt2, rdAppend, rdExt, rdPopAt, rdMaxL, rdMinL, rdListV, rdIsB, isBlV, rdStrI, rdIntS, dFrz, dFld, insOf_put, dMeth, lstOf_rol, lstOf_put, seqOf_tup, seqOf_rol, seqOf_put, frz_tup, frz_rol, frz_int, frz_bl, frz_non, frz_str, frz_obj, startN, wipeD, List.map_cons, List.map_nil, List.length_cons, List.length_nil, Nat.zero_add, Nat.sub_self, Nat.reduceAdd, Nat.reduceSub, List.replicate_succ, List.replicate_zero, List.cons_append, List.nil_append, List.append_nil, List.getElem?_cons_zero, List.getElem?_cons_succ, List.set_cons_zero, List.set_cons_succ, Option.some.injEq, exists_eq_left', DEnds.xd, atI_0, atI_1, atI_2, atI_3, atI_4, atI_5, atI_6, atI_7, ixN_50, ixN_51, ixN_52, ixN_53, ixN_54, ixN_30, ixN_31, ixN_32, put_same, put_put, true_and, and_true, decide_true, decide_false, Bool.not_true, Bool.not_false, Bool.false_eq_true, if_true, if_false, decide_eq_true_eq, Bool.not_eq_true', decide_eq_false_iff_not, mem_one, ex_one, and_self]
  refine isi_tuple hk ?_
  cases d with
  | tup xs =>
    unfold isTup
    dsimp only
    simp only [dSeq, dAsg, dRet, dRetN, dDrop, dRaise, dBreak, dCont, dPar, dAug, dFor, dNext, dSetF, dAugF, dRaiseF, dIfS, dTest, dOp, dVar, dC, dCB, dCons, dNil, dCall, dAndV, dOrV, dNotV, dAndT, dOrT, dNotT, dIf, dTup, dLst, dLstV, dSl, dSlV, rdSlV, oSome, oNone, dNeg, gN, gT, gConsD, gNilD, gSubD, gFldD, dChain, dLc, dBM, isLst, iSeqD, iR1, iR2, iR3, dYes, rdAddV, rdMulV, rdSub, rdDiv, rdMod, rdPow, rdIAdd, rdCmp, rdIsN, isn_non, isn_bl, isn_int, isn_str, isn_ref, isn_tup, isn_rol, isn_obj, rdEqG, rdIx_tup, rdIx_rol, rdIx_put, rdSet, rdLen_tup, rdLen_rol, rdLen_str, rdLen_put, rdInt1, rdInt, rdInt2, rdAppend, rdExt, rdPopAt, rdMaxL, rdMinL, rdListV, rdIsB, isBlV, rdStrI, rdIntS, dFrz, dFld, insOf_put, dMeth, lstOf_rol, lstOf_put, seqOf_tup, seqOf_rol, seqOf_put, frz_tup, frz_rol, frz_int, frz_bl, frz_non, frz_str, frz_obj, startN, wipeD, List.map_cons, List.map_nil, List.length_cons, List.length_nil, Nat.zero_add, Nat.sub_self, Nat.reduceAdd, Nat.reduceSub, List.replicate_succ, List.replicate_zero, List.cons_append, List.nil_append, List.append_nil, List.getElem?_cons_zero, List.getElem?_cons_succ, List.set_cons_zero, List.set_cons_succ, Option.some.injEq, exists_eq_left', DEnds.xd, atI_0, atI_1, atI_2, atI_3, atI_4, atI_5, atI_6, atI_7, ixN_50, ixN_51, ixN_52, ixN_53, ixN_54, ixN_30, ixN_31, ixN_32, put_same, put_put, true_and, and_true, decide_true, decide_false, Bool.not_true, Bool.not_false, Bool.false_eq_true, if_true, if_false, decide_eq_true_eq, Bool.not_eq_true', decide_eq_false_iff_not, mem_one, ex_one, and_self]
    unfold isRow allT at h
    dsimp only at h
    by_cases h1 : (xs.length : Int) ≤ (300000 : Nat)
    · rw [decide_eq_true h1, Bool.true_and] at h
      rw [decide_eq_true (show (xs.length : Int) ≤ 300000 from h1)]
      refine lcV_pure (fun x => Dv.bl (within x 0 255)) (by rw [sizeLine_eq]; omega) (fun _ _ _ => trivial) (fun x hx T Kq hs hq => ?_) ?_
      · simp only [dSeq, dAsg, dRet, dRetN, dDrop, dRaise, dBreak, dCont, dPar, dAug, dFor, dNext, dSetF, dAugF, dRaiseF, dIfS, dTest, dOp, dVar, dC, dCB, dCons, dNil, dCall, dAndV, dOrV, dNotV, dAndT, dOrT, dNotT, dIf, dTup, dLst, dLstV, dSl, dSlV, rdSlV, oSome, oNone, dNeg, gN, gT, gConsD, gNilD, gSubD, gFldD, dChain, dLc, dBM, isLst, iSeqD, iR1, iR2, iR3, dYes, rdAddV, rdMulV, rdSub, rdDiv, rdMod, rdPow, rdIAdd, rdCmp, rdIsN, isn_non, isn_bl, isn_int, isn_str, isn_ref, isn_tup, isn_rol, isn_obj, rdEqG, rdIx_tup, rdIx_rol, rdIx_put, rdSet, rdLen_tup, rdLen_rol, rdLen_str, rdLen_put, rdInt1, rdInt, rdInt2, rdAppend, rdExt, rdPopAt, rdMaxL, rdMinL, rdListV, rdIsB, isBlV, rdStrI, rdIntS, dFrz, dFld, insOf_put, dMeth, lstOf_rol, lstOf_put, seqOf_tup, seqOf_rol, seqOf_put, frz_tup, frz_rol, frz_int, frz_bl, frz_non, frz_str, frz_obj, startN, wipeD, List.map_cons, List.map_nil, List.length_cons, List.length_nil, Nat.zero_add, Nat.sub_self, Nat.reduceAdd, Nat.reduceSub, List.replicate_succ, List.replicate_zero, List.cons_append, List.nil_append, List.append_nil, List.getElem?_cons_zero, List.getElem?_cons_succ, List.set_cons_zero, List.set_cons_succ, Option.some.injEq, exists_eq_left', DEnds.xd, atI_0, atI_1, atI_2, atI_3, atI_4, atI_5, atI_6, atI_7, ixN_50, ixN_51, ixN_52, ixN_53, ixN_54, ixN_30, ixN_31, ixN_32, put_same, put_put, true_and, and_true, decide_true, decide_false, Bool.not_true, Bool.not_false, Bool.false_eq_true, if_true, if_false, decide_eq_true_eq, Bool.not_eq_true', decide_eq_false_iff_not, mem_one, ex_one, and_self]
        exact ⟨x, 256, rfl, (hl x hx).sub hs, hq⟩
      · rw [all_map]
        refine all_rol ?_
        rw [List.all_map, Function.id_comp]
        exact h
    · rw [decide_eq_false h1] at h
      rw [decide_eq_false (show ¬ (xs.length : Int) ≤ 300000 from h1)]
      exact h
  | _ => exact h
def sp_check_row (A : Ad) : SpD := fun ds S Q X => ∃ d, ds = [d] ∧ knownL A S d ∧ if isRow d = true then Q .non S else X (.ref A.NoRow) none S
theorem len_check_row (A : Ad) : ∀ ds S Q X, sp_check_row A ds S Q X → ds.length = 1 := by rintro _ _ _ _ ⟨_, rfl, _⟩; rfl
def r_check_row (A : Ad) : DS := (dIfS (dNotT (dTest (dCall (sp_is_row A) (dCons (dVar 0) dNil)))) (dRaise (.ref A.NoRow)) dNext)
theorem rd_check_row (A : Ad) : Rd (r_check_row A) 1 (sp_check_row A) := by
  rintro ds S Q X ⟨d, rfl, hk, h⟩
  unfold r_check_row
  simp only [dSeq, dAsg, dRet, dRetN, dDrop, dRaise, dBreak, dCont, dPar, dAug, dFor, dNext, dSetF, dAugF, dRaiseF, dIfS, dTest, dOp, dVar, dC, dCB, dCons, dNil, dCall, dAndV, dOrV, dNotV, dAndT, dOrT, dNotT, dIf, dTup, dLst, dLstV, dSl, dSlV, rdSlV, oSome, oNone, dNeg, gN, gT, gConsD, gNilD, gSubD, gFldD, dChain, dLc, dBM, isLst, iSeqD, iR1, iR2, iR3, dYes, rdAddV, rdMulV, rdSub, rdDiv, rdMod, rdPow, rdIAdd, rdCmp, rdIsN, isn_non, isn_bl, isn_int, isn_str, isn_ref, isn_tup, isn_rol, isn_obj, rdEqG, rdIx_tup, rdIx_rol, rdIx_put, rdSet, rdLen_tup, rdLen_rol, rdLen_str, rdLen_put, rdInt1, rdInt, rdInt2, rdAppend, rdExt, rdPopAt, rdMaxL, rdMinL, rdListV, rdIsB, isBlV, rdStrI, rdIntS, dFrz, dFld, insOf_put, dMeth, lstOf_rol, lstOf_put, seqOf_tup, seqOf_rol, seqOf_put, frz_tup, frz_rol, frz_int, frz_bl, frz_non, frz_str, frz_obj, startN, wipeD, List.map_cons, List.map_nil, List.length_cons, List.length_nil, Nat.zero_add, Nat.sub_self, Nat.reduceAdd, Nat.reduceSub, List.replicate_succ, List.replicate_zero, List.cons_append, List.nil_append, List.append_nil, List.getElem?_cons_zero, List.getElem?_cons_succ, List.set_cons_zero, List.set_cons_succ, Option.some.injEq, exists_eq_left', DEnds.xd, atI_0, atI_1, atI_2, atI_3, atI_4, atI_5, atI_6, atI_7, ixN_50, ixN_51, ixN_52, ixN_53, ixN_54, ixN_30, ixN_31, ixN_32, put_same, put_put, true_and, and_true, decide_true, decide_false, Bool.not_true, Bool.not_false, Bool.false_eq_true, if_true, if_false, decide_eq_true_eq, Bool.not_eq_true', decide_eq_false_iff_not, mem_one, ex_one, and_self]
  refine ⟨d, rfl, hk, ?_⟩
  cases e : isRow d with
  | true => rw [if_pos e] at h; exact h
  | false => rw [if_neg (by rw [e]; decide)] at h; exact h
end Lw

namespace Lw
open PySem PySem.Spec PyProof.Rows L2 VD
/-! ### figures -/
def figF : Nat → Int → List Int
  | 0, n => [n]
  | k + 1, n => if n < 128 then [n] else (n % 128 + 128) :: figF k (n / 128)
def figs (n : Int) : List Int := figF 9 n
/-- the first place under 128 -/
def fnd : Nat → List Int → Option Nat
  | 0, _ => none
  | _ + 1, [] => none
  | k + 1, b :: r => if b < 128 then some 0 else (fnd k r).map (· + 1)
def val : List Int → Int
  | [] => 0
  | b :: r => b % 128 + 128 * val r
def readO (row : List Int) (at_ : Nat) : Option (Int × Nat) := match fnd 10 (row.drop at_) with
  | none => none
  | some i => if (0 < i ∧ (row.drop at_)[i]? = some 0) ∨ 18446744073709551616 ≤ val ((row.drop at_).take (i + 1)) then none else some (val ((row.drop at_).take (i + 1)), at_ + i + 1)
def numD : Option (Int × Nat) → Dv
  | none => .non
  | some (v, b) => .tup [.int v, .int b]
def unfF (n : Int) : Int := if n % 2 = 0 then n / 2 else -(n + 1) / 2
def foldF (n : Int) : Int := if 0 ≤ n then 2 * n else -2 * n - 1
def inS (n : Int) : Prop := -4611686018427387904 ≤ n ∧ n ≤ 4611686018427387904
instance (n : Int) : Decidable (inS n) := by unfold inS; infer_instance
def readSO (row : List Int) (at_ : Nat) : Option (Int × Nat) := match readO row at_ with
  | some (v, b) => if inS (unfF v) then some (unfF v, b) else none
  | none => none
theorem pow7 (k : Nat) : (128 : Int) ^ (k + 1) = 128 * 128 ^ k := by rw [Int.pow_succ, Int.mul_comm]
theorem val_snoc : ∀ (xs : List Int) (b : Int), val (xs ++ [b]) = val xs + 128 ^ xs.length * (b % 128)
  | [], b => by simp [val]
  | x :: xs, b => by
    show x % 128 + 128 * val (xs ++ [b]) = x % 128 + 128 * val xs + 128 ^ (xs.length + 1) * (b % 128)
    rw [val_snoc xs b, pow7, Int.mul_add, Int.mul_assoc, Int.add_assoc]
/-- the search goes on from a place whose ahead are all great -/
theorem fnd_on : ∀ (i k : Nat) (l : List Int), (∀ j, j < i → ∃ b, l[j]? = some b ∧ ¬ b < 128) → fnd (k + i) l = (fnd k (l.drop i)).map (· + i)
  | 0, k, l, _ => by simp
  | i + 1, k, l, h => by
    obtain ⟨b, hb, hb2⟩ := h 0 (by omega)
    cases l with
    | nil => simp at hb
    | cons c r =>
      simp at hb
      subst hb
      show fnd (k + i + 1) (c :: r) = _
      rw [fnd, if_neg hb2, fnd_on i k r (fun j hj => by have := h (j + 1) (by omega); simpa using this)]
      rw [List.drop_succ_cons, Option.map_map]
      rfl
theorem val_in : ∀ (xs : List Int), 0 ≤ val xs ∧ val xs < 128 ^ xs.length
  | [] => by decide
  | x :: xs => by
    have h := val_in xs
    show 0 ≤ x % 128 + 128 * val xs ∧ x % 128 + 128 * val xs < 128 ^ (xs.length + 1)
    rw [pow7]
    omega
theorem figF_len : ∀ (k : Nat) (n : Int), 1 ≤ (figF k n).length ∧ (figF k n).length ≤ k + 1
  | 0, n => by simp [figF]
  | k + 1, n => by
    unfold figF
    split
    · simp
    · have := figF_len k (n / 128)
      simp
      omega
theorem figF_ok : ∀ (k : Nat) (n : Int), 0 ≤ n → n < 128 ^ (k + 1) → ∀ b ∈ figF k n, 0 ≤ b ∧ b < 256
  | 0, n, h0, h1 => by
    intro b hb
    simp [figF] at hb h1
    omega
  | k + 1, n, h0, h1 => by
    intro b hb
    unfold figF at hb
    split at hb
    · simp at hb; omega
    · rcases List.mem_cons.mp hb with rfl | hb
      · omega
      · exact figF_ok k (n / 128) (by omega) (by rw [pow7] at h1; omega) b hb
theorem figF_val : ∀ (k : Nat) (n : Int), 0 ≤ n → n < 128 ^ (k + 1) → val (figF k n) = n
  | 0, n, h0, h1 => by
    simp [figF, val] at h1 ⊢
    omega
  | k + 1, n, h0, h1 => by
    unfold figF
    split
    · simp [val]; omega
    · show (n % 128 + 128) % 128 + 128 * val (figF k (n / 128)) = n
      rw [figF_val k (n / 128) (by omega) (by rw [pow7] at h1; omega)]
      omega
theorem figF_fnd : ∀ (k m : Nat) (n : Int) (t : List Int), 0 ≤ n → n < 128 ^ (k + 1) → k < m → fnd m (figF k n ++ t) = some ((figF k n).length - 1)
  | 0, m + 1, n, t, h0, h1, _ => by
    simp [figF] at h1 ⊢
    rw [fnd, if_pos h1]
  | k + 1, m + 1, n, t, h0, h1, hm => by
    unfold figF
    split
    · rename_i h
      show fnd (m + 1) (n :: t) = _
      rw [fnd, if_pos h]
      rfl
    · show fnd (m + 1) ((n % 128 + 128) :: (figF k (n / 128) ++ t)) = _
      rw [fnd, if_neg (by omega), figF_fnd k m (n / 128) t (by omega) (by rw [pow7] at h1; omega) (by omega)]
      have := figF_len k (n / 128)
      simp
      omega
theorem figF_last : ∀ (k : Nat) (n : Int), 0 < n → n < 128 ^ (k + 1) → (figF k n)[(figF k n).length - 1]? ≠ some 0
  | 0, n, h0, h1 => by
    simp [figF]
    omega
  | k + 1, n, h0, h1 => by
    unfold figF
    split
    · simp; omega
    · have h2 := figF_last k (n / 128) (by omega) (by rw [pow7] at h1; omega)
      have h3 := figF_len k (n / 128)
      intro e
      apply h2
      rw [← e]
      rw [List.length_cons, show (figF k (n / 128)).length + 1 - 1 = ((figF k (n / 128)).length - 1) + 1 by omega, List.getElem?_cons_succ]
theorem readO_figs (pre tail : List Int) (n : Int) (h0 : 0 ≤ n) (h1 : n < 18446744073709551616) : readO (pre ++ figs n ++ tail) pre.length = some (n, pre.length + (figs n).length) := by
  have hb : n < 128 ^ (9 + 1) := by
    have : (128 : Int) ^ (9 + 1) = 1180591620717411303424 := by decide
    omega
  have hl := figF_len 9 n
  unfold readO
  rw [List.append_assoc, List.drop_left]
  unfold figs
  rw [figF_fnd 9 10 n tail h0 hb (by decide)]
  dsimp only
  rw [show (figF 9 n).length - 1 + 1 = (figF 9 n).length by omega, List.take_left, figF_val 9 n h0 hb]
  rw [if_neg]
  · rw [show pre.length + ((figF 9 n).length - 1) + 1 = pre.length + (figF 9 n).length by omega]
  · rintro (⟨h2, h3⟩ | h2)
    · rw [List.getElem?_append_left (by omega)] at h3
      by_cases hn : n = 0
      · subst hn
        simp [figF] at h2
      · exact figF_last 9 n (by omega) hb h3
    · omega
theorem fnd_lt : ∀ (k : Nat) (l : List Int) (i : Nat), fnd k l = some i → i < l.length
  | 0, _, _, h => by cases h
  | k + 1, [], _, h => by cases h
  | k + 1, b :: r, i, h => by
    unfold fnd at h
    split at h
    · cases h; simp
    · rw [Option.map_eq_some_iff] at h
      obtain ⟨j, h1, rfl⟩ := h
      have := fnd_lt k r j h1
      simp; omega
theorem readO_ok {xs : List Int} {i : Nat} {v : Int} {b : Nat} (h : readO xs i = some (v, b)) : 0 ≤ v ∧ v < 18446744073709551616 ∧ i < b ∧ b ≤ xs.length := by
  unfold readO at h
  split at h
  · cases h
  · rename_i j hj
    split at h
    · cases h
    · rename_i hn
      have h2 := fnd_lt _ _ _ hj
      rw [List.length_drop] at h2
      cases h
      have h3 := (val_in ((xs.drop i).take (j + 1))).1
      refine ⟨h3, ?_, by omega, by omega⟩
      have := fun z => hn (.inr z)
      omega
theorem unf_fold {n : Int} : unfF (foldF n) = n := by
  unfold unfF foldF
  split <;> split <;> omega
theorem fold_unf {n : Int} (h : 0 ≤ n) : foldF (unfF n) = n := by
  unfold unfF foldF
  split <;> split <;> omega
theorem unf_in {n : Int} (h : 0 ≤ n) : inS (unfF n) ↔ n ≤ 9223372036854775808 := by
  unfold inS unfF
  split <;> omega

def rowOk (ns : List Int) : Prop := ns.length ≤ 300000 ∧ ∀ n ∈ ns, 0 ≤ n ∧ n < 256
theorem isRow_ints {ns : List Int} (h : rowOk ns) : isRow (.tup (List.map Dv.int ns)) = true := by
  unfold isRow allT
  dsimp only
  rw [Bool.and_eq_true, List.length_map, List.all_map]
  refine ⟨by have := h.1; simp; omega, List.all_eq_true.mpr fun n hn => ?_⟩
  have := h.2 n hn
  simp [within]
  omega
theorem knL_ints {A : Ad} {S : Sto} {ns : List Int} : knownL A S (.tup (List.map Dv.int ns)) := ⟨kn_tup, fun x hx => by
  obtain ⟨n, _, rfl⟩ := List.mem_map.mp hx
  exact kn_int⟩
theorem rangeL_mem {lo : Int} {n i : Nat} {x : Dv} (h : (rangeL lo n 1)[i]? = some x) : i < n ∧ x = .int (lo + i) := by
  obtain ⟨h1, h2⟩ := rangeL_get h
  rw [Int.mul_one] at h2
  exact ⟨h1, h2⟩
theorem map_get {α β : Type} {f : α → β} {xs : List α} {i : Nat} {y : β} (h : (xs.map f)[i]? = some y) : ∃ x, xs[i]? = some x ∧ y = f x := by
  rw [List.getElem?_map, Option.map_eq_some_iff] at h
  obtain ⟨x, h1, h2⟩ := h
  exact ⟨x, h1, h2.symm⟩
def sp_figures_of (A : Ad) : SpD := fun ds S Q _ => ∃ n, ds = [.int n] ∧ 0 ≤ n ∧ n < 18446744073709551616 ∧ Q (.tup (List.map Dv.int (figs n))) S
theorem len_figures_of (A : Ad) : ∀ ds S Q X, sp_figures_of A ds S Q X → ds.length = 1 := by rintro _ _ _ _ ⟨_, rfl, _⟩; rfl
def r_figures_of (A : Ad) : DS := (dSeq (dAsg (dLst dNil) (gN 1))
    (dSeq (dAsg (dVar 0) (gN 2))
    (dSeq (dWhile (dTest (dOp rdGe (dVar 2) (dC (.int 128)))) (dSeq (dDrop (dBM rdAppend (dVar 1) (dCons (dOp rdAddV (dOp rdMod (dVar 2) (dC (.int 128))) (dC (.int 128))) dNil)))
    (dAsg (dOp rdDiv (dVar 2) (dC (.int 128))) (gN 2))))
    (dRet (dOp rdAddV (dCB rdTuple (dCons (dVar 1) dNil)) (dTup (dCons (dVar 2) dNil)))))))
theorem pow_top : (128 : Int) ^ (9 + 1) = 1180591620717411303424 := by decide
theorem rd_figures_of (A : Ad) : Rd (r_figures_of A) 3 (sp_figures_of A) := by
  rintro ds S Q X ⟨n, rfl, h0, h1, h⟩
  unfold r_figures_of
  simp only [dSeq, dAsg, dRet, dRetN, dDrop, dRaise, dBreak, dCont, dPar, dAug, dFor, dNext, dSetF, dAugF, dRaiseF, dIfS, dTest, dOp, dVar, dC, dCB, dCons, dNil, dCall, dAndV, dOrV, dNotV, dAndT, dOrT, dNotT, dIf, dTup, dLst, dLstV, dSl, dSlV, rdSlV, oSome, oNone, dNeg, gN, gT, gConsD, gNilD, gSubD, gFldD, dChain, dLc, dBM, isLst, iSeqD, iR1, iR2, iR3, dYes, rdAddV, rdMulV, rdSub, rdDiv, rdMod, rdPow, rdIAdd, rdCmp, rdIsN, isn_non, isn_bl, isn_int, isn_str, isn_ref, isn_tup, isn_rol, isn_obj, rdEqG, rdIx_tup, rdIx_rol, rdIx_put, rdSet, rdLen_tup, rdLen_rol, rdLen_str, rdLen_put, rdInt1, rdInt, rdInt2, rdAppend, rdExt, rdPopAt, rdMaxL, rdMinL, rdListV, rdIsB, isBlV, rdStrI, rdIntS, dFrz, dFld, insOf_put, dMeth, lstOf_rol, lstOf_put, seqOf_tup, seqOf_rol, seqOf_put, frz_tup, frz_rol, frz_int, frz_bl, frz_non, frz_str, frz_obj, startN, wipeD, List.map_cons, List.map_nil, List.length_cons, List.length_nil, Nat.zero_add, Nat.sub_self, Nat.reduceAdd, Nat.reduceSub, List.replicate_succ, List.replicate_zero, List.cons_append, List.nil_append, List.append_nil, List.getElem?_cons_zero, List.getElem?_cons_succ, List.set_cons_zero, List.set_cons_succ, Option.some.injEq, exists_eq_left', DEnds.xd, atI_0, atI_1, atI_2, atI_3, atI_4, atI_5, atI_6, atI_7, ixN_50, ixN_51, ixN_52, ixN_53, ixN_54, ixN_30, ixN_31, ixN_32, put_same, put_put, true_and, and_true, decide_true, decide_false, Bool.not_true, Bool.not_false, Bool.false_eq_true, if_true, if_false, decide_eq_true_eq, Bool.not_eq_true', decide_eq_false_iff_not, mem_one, ex_one, and_self]
  refine ⟨by rw [sizeLine_eq]; decide, fun p hp => ?_⟩
  unfold dWhile
  refine ⟨fun m ρ T => ∃ (pre : List Int) (l : Int), T = put S p (.lst (List.map Dv.int pre)) ∧ 0 ≤ l ∧ l < 128 ^ (m + 1) ∧ pre.length + m = 9 ∧ pre ++ figF m l = figs n ∧ ρ = [some (.int n), some (.ref p), some (.int l)], ⟨9, [], n, rfl, h0, by rw [pow_top]; omega, rfl, rfl, rfl⟩, ?_⟩
  rintro m ρ T ⟨pre, l, rfl, hl0, hl1, hpm, hpre, rfl⟩
  simp only [dSeq, dAsg, dRet, dRetN, dDrop, dRaise, dBreak, dCont, dPar, dAug, dFor, dNext, dSetF, dAugF, dRaiseF, dIfS, dTest, dOp, dVar, dC, dCB, dCons, dNil, dCall, dAndV, dOrV, dNotV, dAndT, dOrT, dNotT, dIf, dTup, dLst, dLstV, dSl, dSlV, rdSlV, oSome, oNone, dNeg, gN, gT, gConsD, gNilD, gSubD, gFldD, dChain, dLc, dBM, isLst, iSeqD, iR1, iR2, iR3, dYes, rdAddV, rdMulV, rdSub, rdDiv, rdMod, rdPow, rdIAdd, rdCmp, rdIsN, isn_non, isn_bl, isn_int, isn_str, isn_ref, isn_tup, isn_rol, isn_obj, rdEqG, rdIx_tup, rdIx_rol, rdIx_put, rdSet, rdLen_tup, rdLen_rol, rdLen_str, rdLen_put, rdInt1, rdInt, rdInt2, rdAppend, rdExt, rdPopAt, rdMaxL, rdMinL, rdListV, rdIsB, isBlV, rdStrI, rdIntS, dFrz, dFld, insOf_put, dMeth, lstOf_rol, lstOf_put, seqOf_tup, seqOf_rol, seqOf_put, frz_tup, frz_rol, frz_int, frz_bl, frz_non, frz_str, frz_obj, startN, wipeD, List.map_cons, List.map_nil, List.length_cons, List.length_nil, Nat.zero_add, Nat.sub_self, Nat.reduceAdd, Nat.reduceSub, List.replicate_succ, List.replicate_zero, List.cons_append, List.nil_append, List.append_nil, List.getElem?_cons_zero, List.getElem?_cons_succ, List.set_cons_zero, List.set_cons_succ, Option.some.injEq, exists_eq_left', DEnds.xd, atI_0, atI_1, atI_2, atI_3, atI_4, atI_5, atI_6, atI_7, ixN_50, ixN_51, ixN_52, ixN_53, ixN_54, ixN_30, ixN_31, ixN_32, put_same, put_put, true_and, and_true, decide_true, decide_false, Bool.not_true, Bool.not_false, Bool.false_eq_true, if_true, if_false, decide_eq_true_eq, Bool.not_eq_true', decide_eq_false_iff_not, mem_one, ex_one, and_self]
  by_cases hl : 128 ≤ l
  · rw [if_pos hl]
    refine ⟨by decide, by rw [sizeLine_eq, List.length_map]; omega, divp 64 (by decide) (by decide), ?_⟩
    cases m with
    | zero => simp at hl1; omega
    | succ m =>
      refine ⟨m, by omega, pre ++ [l % 128 + 128], l / 128, by rw [List.map_append]; rfl, by omega, by rw [pow7] at hl1; omega, by simp; omega, ?_, rfl⟩
      rw [← hpre]
      conv => rhs; unfold figF
      rw [if_neg (by omega), List.append_assoc]
      rfl
  · rw [if_neg hl]
    refine tup_new hp ⟨by rw [sizeLine_eq]; decide, by rw [sizeLine_eq, List.length_map]; simp; omega, ?_⟩
    have e : figF m l = [l] := by
      cases m with
      | zero => rfl
      | succ m => unfold figF; rw [if_pos (by omega)]
    rw [e] at hpre
    rw [show [Dv.int l] = List.map Dv.int [l] from rfl, ← List.map_append, hpre]
    exact h
def sp_number_at (A : Ad) : SpD := fun ds S Q _ => ∃ (xs : List Int) (i : Nat), ds = [.tup (List.map Dv.int xs), .int i] ∧ rowOk xs ∧ i ≤ xs.length ∧ Q (numD (readO xs i)) S
theorem len_number_at (A : Ad) : ∀ ds S Q X, sp_number_at A ds S Q X → ds.length = 2 := by rintro _ _ _ _ ⟨_, _, rfl, _⟩; rfl
def r_number_at (A : Ad) : DS := (dSeq (dAsg (dC (.int 0)) (gN 2))
    (dSeq (dAsg (dC (.int 1)) (gN 3))
    (dSeq (dFor (iR2 (dCons (dVar 1) (dCons (dCB rdMinL (dCons (dCB rdLen (dCons (dVar 0) dNil)) (dCons (dOp rdAddV (dVar 1) (dC (.int 10))) dNil))) dNil))) (gN 4) (dSeq (dAug 2 rdIAdd (dOp rdMulV (dOp rdMod (dOp rdIx (dVar 0) (dVar 4)) (dC (.int 128))) (dVar 3)))
    (dSeq (dAsg (dOp rdMulV (dVar 3) (dC (.int 128))) (gN 3))
    (dIfS (dTest (dOp rdLt (dOp rdIx (dVar 0) (dVar 4)) (dC (.int 128)))) (dSeq (dAsg (dAndV (dOp rdEq (dOp rdIx (dVar 0) (dVar 4)) (dC (.int 0))) (dOp rdGt (dVar 4) (dVar 1))) (gN 5))
    (dRet (dIf (dOrT (dTest (dVar 5)) (dTest (dOp rdGe (dVar 2) (dC (.int 18446744073709551616))))) (dC .non) (dTup (dCons (dVar 2) (dCons (dOp rdAddV (dVar 4) (dC (.int 1))) dNil)))))) dNext))))
    (dRet (dC .non)))))
theorem rd_number_at (A : Ad) : Rd (r_number_at A) 6 (sp_number_at A) := by
  rintro ds S Q X ⟨xs, i0, rfl, hr, hi, h⟩
  unfold r_number_at
  unfold dFor
  simp only [dSeq, dAsg, dRet, dRetN, dDrop, dRaise, dBreak, dCont, dPar, dAug, dFor, dNext, dSetF, dAugF, dRaiseF, dIfS, dTest, dOp, dVar, dC, dCB, dCons, dNil, dCall, dAndV, dOrV, dNotV, dAndT, dOrT, dNotT, dIf, dTup, dLst, dLstV, dSl, dSlV, rdSlV, oSome, oNone, dNeg, gN, gT, gConsD, gNilD, gSubD, gFldD, dChain, dLc, dBM, isLst, iSeqD, iR1, iR2, iR3, dYes, rdAddV, rdMulV, rdSub, rdDiv, rdMod, rdPow, rdIAdd, rdCmp, rdIsN, isn_non, isn_bl, isn_int, isn_str, isn_ref, isn_tup, isn_rol, isn_obj, rdEqG, rdIx_tup, rdIx_rol, rdIx_put, rdSet, rdLen_tup, rdLen_rol, rdLen_str, rdLen_put, rdInt1, rdInt, rdInt2, rdAppend, rdExt, rdPopAt, rdMaxL, rdMinL, rdListV, rdIsB, isBlV, rdStrI, rdIntS, dFrz, dFld, insOf_put, dMeth, lstOf_rol, lstOf_put, seqOf_tup, seqOf_rol, seqOf_put, frz_tup, frz_rol, frz_int, frz_bl, frz_non, frz_str, frz_obj, startN, wipeD, List.map_cons, List.map_nil, List.length_cons, List.length_nil, Nat.zero_add, Nat.sub_self, Nat.reduceAdd, Nat.reduceSub, List.replicate_succ, List.replicate_zero, List.cons_append, List.nil_append, List.append_nil, List.getElem?_cons_zero, List.getElem?_cons_succ, List.set_cons_zero, List.set_cons_succ, Option.some.injEq, exists_eq_left', DEnds.xd, atI_0, atI_1, atI_2, atI_3, atI_4, atI_5, atI_6, atI_7, ixN_50, ixN_51, ixN_52, ixN_53, ixN_54, ixN_30, ixN_31, ixN_32, put_same, put_put, true_and, and_true, decide_true, decide_false, Bool.not_true, Bool.not_false, Bool.false_eq_true, if_true, if_false, decide_eq_true_eq, Bool.not_eq_true', decide_eq_false_iff_not, mem_one, ex_one, and_self]
  rw [List.length_map]
  have hr1 := hr.1
  generalize hm : (if (i0 : Int) + 10 < (xs.length : Int) then (i0 : Int) + 10 else (xs.length : Int)) = m
  have hm1 : (i0 : Int) ≤ m ∧ m ≤ xs.length ∧ m ≤ i0 + 10 ∧ (m = xs.length ∨ m = i0 + 10) := by
    rw [← hm]
    split <;> omega
  have hget : ∀ j : Nat, (xs.drop i0)[j]? = xs[i0 + j]? := fun j => by rw [List.getElem?_drop]
  refine for_go (fun j ρ T => T = S ∧ (∀ k, k < j → ∃ b, (xs.drop i0)[k]? = some b ∧ ¬ b < 128) ∧ ∃ y5 y6, ρ = [some (.tup (List.map Dv.int xs)), some (.int i0), some (.int (val ((xs.drop i0).take j))), some (.int (128 ^ j)), y5, y6]) ⟨rfl, fun k hk => by omega, _, _, rfl⟩ (fun _ _ _ _ _ => trivial) (fun j x ρ T hx hw => ?_) fun ρ T hw => ?_
  · obtain ⟨rfl, hb, y5, y6, rfl⟩ := hw
    obtain ⟨hj, rfl⟩ := rangeL_mem hx
    have hlt : i0 + j < xs.length := by omega
    have ex : xs[i0 + j]? = some xs[i0 + j] := List.getElem?_eq_getElem hlt
    have eb := hr.2 _ (List.getElem_mem hlt)
    have ea : atI (List.map Dv.int xs) ((i0 : Int) + (j : Int)) = some (.int xs[i0 + j]) := by
      rw [atI_nn (by omega), show ((i0 : Int) + (j : Int)).toNat = i0 + j by omega, List.getElem?_map, ex]
      rfl
    have ed : (xs.drop i0)[j]? = some xs[i0 + j] := by rw [hget, ex]
    have elen : ((xs.drop i0).take j).length = j := by rw [List.length_take, List.length_drop]; omega
    have ev : val ((xs.drop i0).take j) + xs[i0 + j] % 128 * 128 ^ j = val ((xs.drop i0).take (j + 1)) := by
      rw [List.take_add_one, ed, Option.toList_some, val_snoc, elen, Int.mul_comm]
    simp only [dSeq, dAsg, dRet, dRetN, dDrop, dRaise, dBreak, dCont, dPar, dAug, dFor, dNext, dSetF, dAugF, dRaiseF, dIfS, dTest, dOp, dVar, dC, dCB, dCons, dNil, dCall, dAndV, dOrV, dNotV, dAndT, dOrT, dNotT, dIf, dTup, dLst, dLstV, dSl, dSlV, rdSlV, oSome, oNone, dNeg, gN, gT, gConsD, gNilD, gSubD, gFldD, dChain, dLc, dBM, isLst, iSeqD, iR1, iR2, iR3, dYes, rdAddV, rdMulV, rdSub, rdDiv, rdMod, rdPow, rdIAdd, rdCmp, rdIsN, isn_non, isn_bl, isn_int, isn_str, isn_ref, isn_tup, isn_rol, isn_obj, rdEqG, rdIx_tup, rdIx_rol, rdIx_put, rdSet, rdLen_tup, rdLen_rol, rdLen_str, rdLen_put, rdInt1, rdInt, rdInt2, rdAppend, rdExt, rdPopAt, rdMaxL, rdMinL, rdListV, rdIsB, isBlV, rdStrI, rdIntS, dFrz, dFld, insOf_put, dMeth, lstOf_rol, lstOf_put, seqOf_tup, seqOf_rol, seqOf_put, frz_tup, frz_rol, frz_int, frz_bl, frz_non, frz_str, frz_obj, startN, wipeD, List.map_cons, List.map_nil, List.length_cons, List.length_nil, Nat.zero_add, Nat.sub_self, Nat.reduceAdd, Nat.reduceSub, List.replicate_succ, List.replicate_zero, List.cons_append, List.nil_append, List.append_nil, List.getElem?_cons_zero, List.getElem?_cons_succ, List.set_cons_zero, List.set_cons_succ, Option.some.injEq, exists_eq_left', DEnds.xd, atI_0, atI_1, atI_2, atI_3, atI_4, atI_5, atI_6, atI_7, ixN_50, ixN_51, ixN_52, ixN_53, ixN_54, ixN_30, ixN_31, ixN_32, put_same, put_put, true_and, and_true, decide_true, decide_false, Bool.not_true, Bool.not_false, Bool.false_eq_true, if_true, if_false, decide_eq_true_eq, Bool.not_eq_true', decide_eq_false_iff_not, mem_one, ex_one, and_self]
    refine ⟨_, ea, ?_⟩
    simp only [dSeq, dAsg, dRet, dRetN, dDrop, dRaise, dBreak, dCont, dPar, dAug, dFor, dNext, dSetF, dAugF, dRaiseF, dIfS, dTest, dOp, dVar, dC, dCB, dCons, dNil, dCall, dAndV, dOrV, dNotV, dAndT, dOrT, dNotT, dIf, dTup, dLst, dLstV, dSl, dSlV, rdSlV, oSome, oNone, dNeg, gN, gT, gConsD, gNilD, gSubD, gFldD, dChain, dLc, dBM, isLst, iSeqD, iR1, iR2, iR3, dYes, rdAddV, rdMulV, rdSub, rdDiv, rdMod, rdPow, rdIAdd, rdCmp, rdIsN, isn_non, isn_bl, isn_int, isn_str, isn_ref, isn_tup, isn_rol, isn_obj, rdEqG, rdIx_tup, rdIx_rol, rdIx_put, rdSet, rdLen_tup, rdLen_rol, rdLen_str, rdLen_put, rdInt1, rdInt, rdInt2, rdAppend, rdExt, rdPopAt, rdMaxL, rdMinL, rdListV, rdIsB, isBlV, rdStrI, rdIntS, dFrz, dFld, insOf_put, dMeth, lstOf_rol, lstOf_put, seqOf_tup, seqOf_rol, seqOf_put, frz_tup, frz_rol, frz_int, frz_bl, frz_non, frz_str, frz_obj, startN, wipeD, List.map_cons, List.map_nil, List.length_cons, List.length_nil, Nat.zero_add, Nat.sub_self, Nat.reduceAdd, Nat.reduceSub, List.replicate_succ, List.replicate_zero, List.cons_append, List.nil_append, List.append_nil, List.getElem?_cons_zero, List.getElem?_cons_succ, List.set_cons_zero, List.set_cons_succ, Option.some.injEq, exists_eq_left', DEnds.xd, atI_0, atI_1, atI_2, atI_3, atI_4, atI_5, atI_6, atI_7, ixN_50, ixN_51, ixN_52, ixN_53, ixN_54, ixN_30, ixN_31, ixN_32, put_same, put_put, true_and, and_true, decide_true, decide_false, Bool.not_true, Bool.not_false, Bool.false_eq_true, if_true, if_false, decide_eq_true_eq, Bool.not_eq_true', decide_eq_false_iff_not, mem_one, ex_one, and_self]
    rw [ev]
    refine ⟨by decide, mulok_l (by omega) (by omega), mulok_r (by decide) (by decide), _, ea, ?_⟩
    simp only [dSeq, dAsg, dRet, dRetN, dDrop, dRaise, dBreak, dCont, dPar, dAug, dFor, dNext, dSetF, dAugF, dRaiseF, dIfS, dTest, dOp, dVar, dC, dCB, dCons, dNil, dCall, dAndV, dOrV, dNotV, dAndT, dOrT, dNotT, dIf, dTup, dLst, dLstV, dSl, dSlV, rdSlV, oSome, oNone, dNeg, gN, gT, gConsD, gNilD, gSubD, gFldD, dChain, dLc, dBM, isLst, iSeqD, iR1, iR2, iR3, dYes, rdAddV, rdMulV, rdSub, rdDiv, rdMod, rdPow, rdIAdd, rdCmp, rdIsN, isn_non, isn_bl, isn_int, isn_str, isn_ref, isn_tup, isn_rol, isn_obj, rdEqG, rdIx_tup, rdIx_rol, rdIx_put, rdSet, rdLen_tup, rdLen_rol, rdLen_str, rdLen_put, rdInt1, rdInt, rdInt2, rdAppend, rdExt, rdPopAt, rdMaxL, rdMinL, rdListV, rdIsB, isBlV, rdStrI, rdIntS, dFrz, dFld, insOf_put, dMeth, lstOf_rol, lstOf_put, seqOf_tup, seqOf_rol, seqOf_put, frz_tup, frz_rol, frz_int, frz_bl, frz_non, frz_str, frz_obj, startN, wipeD, List.map_cons, List.map_nil, List.length_cons, List.length_nil, Nat.zero_add, Nat.sub_self, Nat.reduceAdd, Nat.reduceSub, List.replicate_succ, List.replicate_zero, List.cons_append, List.nil_append, List.append_nil, List.getElem?_cons_zero, List.getElem?_cons_succ, List.set_cons_zero, List.set_cons_succ, Option.some.injEq, exists_eq_left', DEnds.xd, atI_0, atI_1, atI_2, atI_3, atI_4, atI_5, atI_6, atI_7, ixN_50, ixN_51, ixN_52, ixN_53, ixN_54, ixN_30, ixN_31, ixN_32, put_same, put_put, true_and, and_true, decide_true, decide_false, Bool.not_true, Bool.not_false, Bool.false_eq_true, if_true, if_false, decide_eq_true_eq, Bool.not_eq_true', decide_eq_false_iff_not, mem_one, ex_one, and_self]
    by_cases h1 : xs[i0 + j] < 128
    · rw [if_pos h1]
      refine ⟨_, ea, ?_⟩
      simp only [dSeq, dAsg, dRet, dRetN, dDrop, dRaise, dBreak, dCont, dPar, dAug, dFor, dNext, dSetF, dAugF, dRaiseF, dIfS, dTest, dOp, dVar, dC, dCB, dCons, dNil, dCall, dAndV, dOrV, dNotV, dAndT, dOrT, dNotT, dIf, dTup, dLst, dLstV, dSl, dSlV, rdSlV, oSome, oNone, dNeg, gN, gT, gConsD, gNilD, gSubD, gFldD, dChain, dLc, dBM, isLst, iSeqD, iR1, iR2, iR3, dYes, rdAddV, rdMulV, rdSub, rdDiv, rdMod, rdPow, rdIAdd, rdCmp, rdIsN, isn_non, isn_bl, isn_int, isn_str, isn_ref, isn_tup, isn_rol, isn_obj, rdEqG, rdIx_tup, rdIx_rol, rdIx_put, rdSet, rdLen_tup, rdLen_rol, rdLen_str, rdLen_put, rdInt1, rdInt, rdInt2, rdAppend, rdExt, rdPopAt, rdMaxL, rdMinL, rdListV, rdIsB, isBlV, rdStrI, rdIntS, dFrz, dFld, insOf_put, dMeth, lstOf_rol, lstOf_put, seqOf_tup, seqOf_rol, seqOf_put, frz_tup, frz_rol, frz_int, frz_bl, frz_non, frz_str, frz_obj, startN, wipeD, List.map_cons, List.map_nil, List.length_cons, List.length_nil, Nat.zero_add, Nat.sub_self, Nat.reduceAdd, Nat.reduceSub, List.replicate_succ, List.replicate_zero, List.cons_append, List.nil_append, List.append_nil, List.getElem?_cons_zero, List.getElem?_cons_succ, List.set_cons_zero, List.set_cons_succ, Option.some.injEq, exists_eq_left', DEnds.xd, atI_0, atI_1, atI_2, atI_3, atI_4, atI_5, atI_6, atI_7, ixN_50, ixN_51, ixN_52, ixN_53, ixN_54, ixN_30, ixN_31, ixN_32, put_same, put_put, true_and, and_true, decide_true, decide_false, Bool.not_true, Bool.not_false, Bool.false_eq_true, if_true, if_false, decide_eq_true_eq, Bool.not_eq_true', decide_eq_false_iff_not, mem_one, ex_one, and_self]
      have ef : fnd 10 (xs.drop i0) = some j := by
        have e1 := fnd_on j (10 - j) (xs.drop i0) hb
        rw [show 10 - j + j = 10 by omega] at e1
        rw [e1, List.drop_eq_getElem?_toList_append, ed]
        obtain ⟨k, hk⟩ : ∃ k, 10 - j = k + 1 := ⟨9 - j, by omega⟩
        rw [hk]
        show (fnd (k + 1) (xs[i0 + j] :: _)).map (· + j) = some j
        rw [fnd, if_pos h1]
        simp
      have hh : readO xs i0 = if (0 < j ∧ xs[i0 + j] = 0) ∨ 18446744073709551616 ≤ val ((xs.drop i0).take (j + 1)) then none else some (val ((xs.drop i0).take (j + 1)), i0 + j + 1) := by
        unfold readO
        rw [ef]
        dsimp only
        rw [ed]
        simp only [Option.some.injEq]
      rw [hh] at h
      have ec : ((i0 + j + 1 : Nat) : Int) = (i0 : Int) + j + 1 := by omega
      have fin : ∀ c : Prop, [Decidable c] → (c ↔ ((0 < j ∧ xs[i0 + j] = 0) ∨ 18446744073709551616 ≤ val ((xs.drop i0).take (j + 1)))) → if c then Q .non T else 2 ≤ sizeLine ∧ Q (.tup [.int (val ((xs.drop i0).take (j + 1))), .int ((i0 : Int) + j + 1)]) T := by
        intro c _ hc
        by_cases h3 : c
        · rw [if_pos h3]
          rw [if_pos (hc.mp h3)] at h
          exact h
        · rw [if_neg h3]
          rw [if_neg fun z => h3 (hc.mpr z)] at h
          rw [← ec]
          exact ⟨sl2, h⟩
      by_cases h4 : xs[i0 + j] = 0
      · rw [decide_eq_true h4]
        dsimp only
        by_cases h5 : 0 < j
        · rw [if_pos (by omega)]
          exact fin True ⟨fun _ => .inl ⟨h5, h4⟩, fun _ => trivial⟩
        · rw [if_neg (by omega)]
          exact fin _ ⟨.inr, fun z => z.elim (fun y => (h5 y.1).elim) id⟩
      · rw [decide_eq_false h4]
        dsimp only
        exact fin _ ⟨.inr, fun z => z.elim (fun y => (h4 y.2).elim) id⟩
    · rw [if_neg h1]
      rw [← Int.pow_succ]
      refine ⟨fun k hk => ?_, _, _, rfl⟩
      by_cases e : k = j
      · subst e
        exact ⟨_, ed, h1⟩
      · exact hb k (by omega)
  · obtain ⟨rfl, hb, y5, y6, rfl⟩ := hw
    rw [rangeL_len] at hb
    simp only [dSeq, dAsg, dRet, dRetN, dDrop, dRaise, dBreak, dCont, dPar, dAug, dFor, dNext, dSetF, dAugF, dRaiseF, dIfS, dTest, dOp, dVar, dC, dCB, dCons, dNil, dCall, dAndV, dOrV, dNotV, dAndT, dOrT, dNotT, dIf, dTup, dLst, dLstV, dSl, dSlV, rdSlV, oSome, oNone, dNeg, gN, gT, gConsD, gNilD, gSubD, gFldD, dChain, dLc, dBM, isLst, iSeqD, iR1, iR2, iR3, dYes, rdAddV, rdMulV, rdSub, rdDiv, rdMod, rdPow, rdIAdd, rdCmp, rdIsN, isn_non, isn_bl, isn_int, isn_str, isn_ref, isn_tup, isn_rol, isn_obj, rdEqG, rdIx_tup, rdIx_rol, rdIx_put, rdSet, rdLen_tup, rdLen_rol, rdLen_str, rdLen_put, rdInt1, rdInt, rdInt2, rdAppend, rdExt, rdPopAt, rdMaxL, rdMinL, rdListV, rdIsB, isBlV, rdStrI, rdIntS, dFrz, dFld, insOf_put, dMeth, lstOf_rol, lstOf_put, seqOf_tup, seqOf_rol, seqOf_put, frz_tup, frz_rol, frz_int, frz_bl, frz_non, frz_str, frz_obj, startN, wipeD, List.map_cons, List.map_nil, List.length_cons, List.length_nil, Nat.zero_add, Nat.sub_self, Nat.reduceAdd, Nat.reduceSub, List.replicate_succ, List.replicate_zero, List.cons_append, List.nil_append, List.append_nil, List.getElem?_cons_zero, List.getElem?_cons_succ, List.set_cons_zero, List.set_cons_succ, Option.some.injEq, exists_eq_left', DEnds.xd, atI_0, atI_1, atI_2, atI_3, atI_4, atI_5, atI_6, atI_7, ixN_50, ixN_51, ixN_52, ixN_53, ixN_54, ixN_30, ixN_31, ixN_32, put_same, put_put, true_and, and_true, decide_true, decide_false, Bool.not_true, Bool.not_false, Bool.false_eq_true, if_true, if_false, decide_eq_true_eq, Bool.not_eq_true', decide_eq_false_iff_not, mem_one, ex_one, and_self]
    have ef : fnd 10 (xs.drop i0) = none := by
      have hj : (m - (i0 : Int)).toNat ≤ 10 := by omega
      have e1 := fnd_on (m - (i0 : Int)).toNat (10 - (m - (i0 : Int)).toNat) (xs.drop i0) hb
      rw [show 10 - (m - (i0 : Int)).toNat + (m - (i0 : Int)).toNat = 10 by omega] at e1
      rw [e1]
      rcases hm1.2.2.2 with e | e
      · rw [List.drop_drop, List.drop_of_length_le (by omega)]
        cases 10 - (m - (i0 : Int)).toNat <;> rfl
      · rw [show 10 - (m - (i0 : Int)).toNat = 0 by omega]
        rfl
    unfold readO at h
    rw [ef] at h
    exact h
end Lw

namespace Lw
open PySem PySem.Spec PyProof.Rows L2 VD
/-! ### rows as ints; records -/
def ivl : Dv → Int
  | .int i => i
  | _ => 0
def rowI : Dv → List Int
  | .tup xs => xs.map ivl
  | _ => []
theorem row_is {d : Dv} (h : isRow d = true) : d = .tup (List.map Dv.int (rowI d)) ∧ rowOk (rowI d) := by
  unfold isRow allT at h
  split at h
  · rename_i xs
    rw [Bool.and_eq_true] at h
    obtain ⟨h1, h2⟩ := h
    have h2 := List.all_eq_true.mp h2
    have e : ∀ ys : List Dv, (∀ y ∈ ys, within y 0 255 = true) → List.map Dv.int (ys.map ivl) = ys := by
      intro ys
      induction ys with
      | nil => intro _; rfl
      | cons y ys ih =>
        intro hy
        obtain ⟨i, rfl, _, _⟩ := within_i.mp (hy y (by simp))
        rw [List.map_cons, List.map_cons, ih fun z hz => hy z (by simp [hz])]
        rfl
    refine ⟨by unfold rowI; dsimp only; rw [e xs h2], by unfold rowI; dsimp only; rw [List.length_map]; have := of_decide_eq_true h1; omega, fun n hn => ?_⟩
    unfold rowI at hn
    dsimp only at hn
    obtain ⟨y, hy, rfl⟩ := List.mem_map.mp hn
    obtain ⟨i, rfl, h3, h4⟩ := within_i.mp (h2 y hy)
    unfold ivl
    dsimp only
    omega
  · cases h
theorem rowI_ints {ns : List Int} : rowI (.tup (List.map Dv.int ns)) = ns := by
  unfold rowI
  dsimp only
  rw [List.map_map]
  exact List.map_id' ns
theorem figs_ok {n : Int} (h0 : 0 ≤ n) (h1 : n < 18446744073709551616) : ∀ b ∈ figs n, 0 ≤ b ∧ b < 256 := figF_ok 9 n h0 (by rw [pow_top]; omega)
theorem figs_len {n : Int} : 1 ≤ (figs n).length ∧ (figs n).length ≤ 10 := figF_len 9 n
def recF (xs : List Int) : List Int := figs (xs.length : Nat) ++ xs
def contF (xs : List Int) : Option (List Int) := match readO xs 0 with
  | none => none
  | some (v, b) => if (b : Int) + v = (xs.length : Nat) then some (xs.drop b) else none
def rowD : Option (List Int) → Dv
  | none => .non
  | some ys => .tup (List.map Dv.int ys)
theorem cont_rec {xs : List Int} (h : xs.length ≤ 300000) : contF (recF xs) = some xs := by
  unfold contF recF
  have e := readO_figs [] xs (xs.length : Nat) (by omega) (by omega)
  simp only [List.nil_append, List.length_nil, Nat.zero_add] at e
  rw [e]
  dsimp only
  rw [List.length_append, if_pos (by omega), List.drop_left]
theorem cont_sub {xs ys : List Int} (h : contF xs = some ys) : ∃ k, ys = xs.drop k := by
  unfold contF at h
  split at h
  · cases h
  · split at h
    · cases h; exact ⟨_, rfl⟩
    · cases h
def sp_recorded (A : Ad) : SpD := fun ds S Q _ => ∃ xs : List Int, ds = [.tup (List.map Dv.int xs)] ∧ xs.length ≤ 300000 ∧ Q (.tup (List.map Dv.int (recF xs))) S
theorem len_recorded (A : Ad) : ∀ ds S Q X, sp_recorded A ds S Q X → ds.length = 1 := by rintro _ _ _ _ ⟨_, rfl, _⟩; rfl
def r_recorded (A : Ad) : DS := (dRet (dOp rdAddV (dCall (sp_figures_of A) (dCons (dCB rdLen (dCons (dVar 0) dNil)) dNil)) (dVar 0)))
theorem rd_recorded (A : Ad) : Rd (r_recorded A) 1 (sp_recorded A) := by
  rintro ds S Q X ⟨xs, rfl, hl, h⟩
  unfold r_recorded
  simp only [dSeq, dAsg, dRet, dRetN, dDrop, dRaise, dBreak, dCont, dPar, dAug, dFor, dNext, dSetF, dAugF, dRaiseF, dIfS, dTest, dOp, dVar, dC, dCB, dCons, dNil, dCall, dAndV, dOrV, dNotV, dAndT, dOrT, dNotT, dIf, dTup, dLst, dLstV, dSl, dSlV, rdSlV, oSome, oNone, dNeg, gN, gT, gConsD, gNilD, gSubD, gFldD, dChain, dLc, dBM, isLst, iSeqD, iR1, iR2, iR3, dYes, rdAddV, rdMulV, rdSub, rdDiv, rdMod, rdPow, rdIAdd, rdCmp, rdIsN, isn_non, isn_bl, isn_int, isn_str, isn_ref, isn_tup, isn_rol, isn_obj, rdEqG, rdIx_tup, rdIx_rol, rdIx_put, rdSet, rdLen_tup, rdLen_rol, rdLen_str, rdLen_put, rdInt1, rdInt, rdInt2, rdAppend, rdExt, rdPopAt, rdMaxL, rdMinL, rdListV, rdIsB, isBlV, rdStrI, rdIntS, dFrz, dFld, insOf_put, dMeth, lstOf_rol, lstOf_put, seqOf_tup, seqOf_rol, seqOf_put, frz_tup, frz_rol, frz_int, frz_bl, frz_non, frz_str, frz_obj, startN, wipeD, List.map_cons, List.map_nil, List.length_cons, List.length_nil, Nat.zero_add, Nat.sub_self, Nat.reduceAdd, Nat.reduceSub, List.replicate_succ, List.replicate_zero, List.cons_append, List.nil_append, List.append_nil, List.getElem?_cons_zero, List.getElem?_cons_succ, List.set_cons_zero, List.set_cons_succ, Option.some.injEq, exists_eq_left', DEnds.xd, atI_0, atI_1, atI_2, atI_3, atI_4, atI_5, atI_6, atI_7, ixN_50, ixN_51, ixN_52, ixN_53, ixN_54, ixN_30, ixN_31, ixN_32, put_same, put_put, true_and, and_true, decide_true, decide_false, Bool.not_true, Bool.not_false, Bool.false_eq_true, if_true, if_false, decide_eq_true_eq, Bool.not_eq_true', decide_eq_false_iff_not, mem_one, ex_one, and_self]
  rw [List.length_map]
  refine ⟨_, rfl, by omega, by omega, ?_⟩
  simp only [dSeq, dAsg, dRet, dRetN, dDrop, dRaise, dBreak, dCont, dPar, dAug, dFor, dNext, dSetF, dAugF, dRaiseF, dIfS, dTest, dOp, dVar, dC, dCB, dCons, dNil, dCall, dAndV, dOrV, dNotV, dAndT, dOrT, dNotT, dIf, dTup, dLst, dLstV, dSl, dSlV, rdSlV, oSome, oNone, dNeg, gN, gT, gConsD, gNilD, gSubD, gFldD, dChain, dLc, dBM, isLst, iSeqD, iR1, iR2, iR3, dYes, rdAddV, rdMulV, rdSub, rdDiv, rdMod, rdPow, rdIAdd, rdCmp, rdIsN, isn_non, isn_bl, isn_int, isn_str, isn_ref, isn_tup, isn_rol, isn_obj, rdEqG, rdIx_tup, rdIx_rol, rdIx_put, rdSet, rdLen_tup, rdLen_rol, rdLen_str, rdLen_put, rdInt1, rdInt, rdInt2, rdAppend, rdExt, rdPopAt, rdMaxL, rdMinL, rdListV, rdIsB, isBlV, rdStrI, rdIntS, dFrz, dFld, insOf_put, dMeth, lstOf_rol, lstOf_put, seqOf_tup, seqOf_rol, seqOf_put, frz_tup, frz_rol, frz_int, frz_bl, frz_non, frz_str, frz_obj, startN, wipeD, List.map_cons, List.map_nil, List.length_cons, List.length_nil, Nat.zero_add, Nat.sub_self, Nat.reduceAdd, Nat.reduceSub, List.replicate_succ, List.replicate_zero, List.cons_append, List.nil_append, List.append_nil, List.getElem?_cons_zero, List.getElem?_cons_succ, List.set_cons_zero, List.set_cons_succ, Option.some.injEq, exists_eq_left', DEnds.xd, atI_0, atI_1, atI_2, atI_3, atI_4, atI_5, atI_6, atI_7, ixN_50, ixN_51, ixN_52, ixN_53, ixN_54, ixN_30, ixN_31, ixN_32, put_same, put_put, true_and, and_true, decide_true, decide_false, Bool.not_true, Bool.not_false, Bool.false_eq_true, if_true, if_false, decide_eq_true_eq, Bool.not_eq_true', decide_eq_false_iff_not, mem_one, ex_one, and_self]
  have := (figs_len (n := (xs.length : Nat))).2
  refine ⟨by rw [sizeLine_eq, List.length_map, List.length_map]; omega, ?_⟩
  unfold recF at h
  rw [← List.map_append]
  exact h
def sp_record (A : Ad) : SpD := fun ds S Q X => ∃ d, ds = [d] ∧ knownL A S d ∧ if isRow d = true then Q (.tup (List.map Dv.int (recF (rowI d)))) S else X (.ref A.NoRow) none S
theorem len_record (A : Ad) : ∀ ds S Q X, sp_record A ds S Q X → ds.length = 1 := by rintro _ _ _ _ ⟨_, rfl, _⟩; rfl
def r_record (A : Ad) : DS := (dSeq (dDrop (dCall (sp_check_row A) (dCons (dVar 0) dNil)))
    (dRet (dCall (sp_recorded A) (dCons (dVar 0) dNil))))
theorem rd_record (A : Ad) : Rd (r_record A) 1 (sp_record A) := by
  rintro ds S Q X ⟨d, rfl, hk, h⟩
  unfold r_record
  simp only [dSeq, dAsg, dRet, dRetN, dDrop, dRaise, dBreak, dCont, dPar, dAug, dFor, dNext, dSetF, dAugF, dRaiseF, dIfS, dTest, dOp, dVar, dC, dCB, dCons, dNil, dCall, dAndV, dOrV, dNotV, dAndT, dOrT, dNotT, dIf, dTup, dLst, dLstV, dSl, dSlV, rdSlV, oSome, oNone, dNeg, gN, gT, gConsD, gNilD, gSubD, gFldD, dChain, dLc, dBM, isLst, iSeqD, iR1, iR2, iR3, dYes, rdAddV, rdMulV, rdSub, rdDiv, rdMod, rdPow, rdIAdd, rdCmp, rdIsN, isn_non, isn_bl, isn_int, isn_str, isn_ref, isn_tup, isn_rol, isn_obj, rdEqG, rdIx_tup, rdIx_rol, rdIx_put, rdSet, rdLen_tup, rdLen_rol, rdLen_str, rdLen_put, rdInt1, rdInt, rdInt2, rdAppend, rdExt, rdPopAt, rdMaxL, rdMinL, rdListV, rdIsB, isBlV, rdStrI, rdIntS, dFrz, dFld, insOf_put, dMeth, lstOf_rol, lstOf_put, seqOf_tup, seqOf_rol, seqOf_put, frz_tup, frz_rol, frz_int, frz_bl, frz_non, frz_str, frz_obj, startN, wipeD, List.map_cons, List.map_nil, List.length_cons, List.length_nil, Nat.zero_add, Nat.sub_self, Nat.reduceAdd, Nat.reduceSub, List.replicate_succ, List.replicate_zero, List.cons_append, List.nil_append, List.append_nil, List.getElem?_cons_zero, List.getElem?_cons_succ, List.set_cons_zero, List.set_cons_succ, Option.some.injEq, exists_eq_left', DEnds.xd, atI_0, atI_1, atI_2, atI_3, atI_4, atI_5, atI_6, atI_7, ixN_50, ixN_51, ixN_52, ixN_53, ixN_54, ixN_30, ixN_31, ixN_32, put_same, put_put, true_and, and_true, decide_true, decide_false, Bool.not_true, Bool.not_false, Bool.false_eq_true, if_true, if_false, decide_eq_true_eq, Bool.not_eq_true', decide_eq_false_iff_not, mem_one, ex_one, and_self]
  refine ⟨d, rfl, hk, ?_⟩
  cases e : isRow d with
  | false => rw [if_neg (by rw [e]; decide)] at h; rw [if_neg (by decide)]; exact h
  | true =>
    rw [if_pos e] at h
    obtain ⟨e1, e2⟩ := row_is e
    rw [if_pos rfl]
    simp only [dSeq, dAsg, dRet, dRetN, dDrop, dRaise, dBreak, dCont, dPar, dAug, dFor, dNext, dSetF, dAugF, dRaiseF, dIfS, dTest, dOp, dVar, dC, dCB, dCons, dNil, dCall, dAndV, dOrV, dNotV, dAndT, dOrT, dNotT, dIf, dTup, dLst, dLstV, dSl, dSlV, rdSlV, oSome, oNone, dNeg, gN, gT, gConsD, gNilD, gSubD, gFldD, dChain, dLc, dBM, isLst, iSeqD, iR1, iR2, iR3, dYes, rdAddV, rdMulV, rdSub, rdDiv, rdMod, rdPow, rdIAdd, rdCmp, rdIsN, isn_non, isn_bl, isn_int, isn_str, isn_ref, isn_tup, isn_rol, isn_obj, rdEqG, rdIx_tup, rdIx_rol, rdIx_put, rdSet, rdLen_tup, rdLen_rol, rdLen_str, rdLen_put, rdInt1, rdInt, rdInt2, rdAppend, rdExt, rdPopAt, rdMaxL, rdMinL, rdListV, rdIsB, isBlV, rdStrI, rdIntS, dFrz, dFld, insOf_put, dMeth, lstOf_rol, lstOf_put, seqOf_tup, seqOf_rol, seqOf_put, frz_tup, frz_rol, frz_int, frz_bl, frz_non, frz_str, frz_obj, startN, wipeD, List.map_cons, List.map_nil, List.length_cons, List.length_nil, Nat.zero_add, Nat.sub_self, Nat.reduceAdd, Nat.reduceSub, List.replicate_succ, List.replicate_zero, List.cons_append, List.nil_append, List.append_nil, List.getElem?_cons_zero, List.getElem?_cons_succ, List.set_cons_zero, List.set_cons_succ, Option.some.injEq, exists_eq_left', DEnds.xd, atI_0, atI_1, atI_2, atI_3, atI_4, atI_5, atI_6, atI_7, ixN_50, ixN_51, ixN_52, ixN_53, ixN_54, ixN_30, ixN_31, ixN_32, put_same, put_put, true_and, and_true, decide_true, decide_false, Bool.not_true, Bool.not_false, Bool.false_eq_true, if_true, if_false, decide_eq_true_eq, Bool.not_eq_true', decide_eq_false_iff_not, mem_one, ex_one, and_self]
    exact ⟨rowI d, by rw [← e1], e2.1, h⟩
def sp_contents_of (A : Ad) : SpD := fun ds S Q _ => ∃ xs : List Int, ds = [.tup (List.map Dv.int xs)] ∧ rowOk xs ∧ Q (rowD (contF xs)) S
theorem len_contents_of (A : Ad) : ∀ ds S Q X, sp_contents_of A ds S Q X → ds.length = 1 := by rintro _ _ _ _ ⟨_, rfl, _⟩; rfl
def r_contents_of (A : Ad) : DS := (dSeq (dAsg (dCall (sp_number_at A) (dCons (dVar 0) (dCons (dC (.int 0)) dNil))) (gN 1))
    (dSeq (dIfS (dOrT (dTest (dOp (rdIsN fun b => b) (dVar 1) (dC .non))) (dTest (dOp rdNe (dOp rdAddV (dOp rdIx (dVar 1) (dC (.int 1))) (dOp rdIx (dVar 1) (dC (.int 0)))) (dCB rdLen (dCons (dVar 0) dNil))))) (dRet (dC .non)) dNext)
    (dRet (dSlV (dVar 0) (oSome (dOp rdIx (dVar 1) (dC (.int 1)))) oNone))))
theorem rd_contents_of (A : Ad) : Rd (r_contents_of A) 2 (sp_contents_of A) := by
  rintro ds S Q X ⟨xs, rfl, hr, h⟩
  unfold r_contents_of
  simp only [dSeq, dAsg, dRet, dRetN, dDrop, dRaise, dBreak, dCont, dPar, dAug, dFor, dNext, dSetF, dAugF, dRaiseF, dIfS, dTest, dOp, dVar, dC, dCB, dCons, dNil, dCall, dAndV, dOrV, dNotV, dAndT, dOrT, dNotT, dIf, dTup, dLst, dLstV, dSl, dSlV, rdSlV, oSome, oNone, dNeg, gN, gT, gConsD, gNilD, gSubD, gFldD, dChain, dLc, dBM, isLst, iSeqD, iR1, iR2, iR3, dYes, rdAddV, rdMulV, rdSub, rdDiv, rdMod, rdPow, rdIAdd, rdCmp, rdIsN, isn_non, isn_bl, isn_int, isn_str, isn_ref, isn_tup, isn_rol, isn_obj, rdEqG, rdIx_tup, rdIx_rol, rdIx_put, rdSet, rdLen_tup, rdLen_rol, rdLen_str, rdLen_put, rdInt1, rdInt, rdInt2, rdAppend, rdExt, rdPopAt, rdMaxL, rdMinL, rdListV, rdIsB, isBlV, rdStrI, rdIntS, dFrz, dFld, insOf_put, dMeth, lstOf_rol, lstOf_put, seqOf_tup, seqOf_rol, seqOf_put, frz_tup, frz_rol, frz_int, frz_bl, frz_non, frz_str, frz_obj, startN, wipeD, List.map_cons, List.map_nil, List.length_cons, List.length_nil, Nat.zero_add, Nat.sub_self, Nat.reduceAdd, Nat.reduceSub, List.replicate_succ, List.replicate_zero, List.cons_append, List.nil_append, List.append_nil, List.getElem?_cons_zero, List.getElem?_cons_succ, List.set_cons_zero, List.set_cons_succ, Option.some.injEq, exists_eq_left', DEnds.xd, atI_0, atI_1, atI_2, atI_3, atI_4, atI_5, atI_6, atI_7, ixN_50, ixN_51, ixN_52, ixN_53, ixN_54, ixN_30, ixN_31, ixN_32, put_same, put_put, true_and, and_true, decide_true, decide_false, Bool.not_true, Bool.not_false, Bool.false_eq_true, if_true, if_false, decide_eq_true_eq, Bool.not_eq_true', decide_eq_false_iff_not, mem_one, ex_one, and_self]
  refine ⟨xs, 0, rfl, hr, Nat.zero_le _, ?_⟩
  unfold contF at h
  cases e : readO xs 0 with
  | none => rw [e] at h; unfold numD; simp only [dSeq, dAsg, dRet, dRetN, dDrop, dRaise, dBreak, dCont, dPar, dAug, dFor, dNext, dSetF, dAugF, dRaiseF, dIfS, dTest, dOp, dVar, dC, dCB, dCons, dNil, dCall, dAndV, dOrV, dNotV, dAndT, dOrT, dNotT, dIf, dTup, dLst, dLstV, dSl, dSlV, rdSlV, oSome, oNone, dNeg, gN, gT, gConsD, gNilD, gSubD, gFldD, dChain, dLc, dBM, isLst, iSeqD, iR1, iR2, iR3, dYes, rdAddV, rdMulV, rdSub, rdDiv, rdMod, rdPow, rdIAdd, rdCmp, rdIsN, isn_non, isn_bl, isn_int, isn_str, isn_ref, isn_tup, isn_rol, isn_obj, rdEqG, rdIx_tup, rdIx_rol, rdIx_put, rdSet, rdLen_tup, rdLen_rol, rdLen_str, rdLen_put, rdInt1, rdInt, rdInt2, rdAppend, rdExt, rdPopAt, rdMaxL, rdMinL, rdListV, rdIsB, isBlV, rdStrI, rdIntS, dFrz, dFld, insOf_put, dMeth, lstOf_rol, lstOf_put, seqOf_tup, seqOf_rol, seqOf_put, frz_tup, frz_rol, frz_int, frz_bl, frz_non, frz_str, frz_obj, startN, wipeD, List.map_cons, List.map_nil, List.length_cons, List.length_nil, Nat.zero_add, Nat.sub_self, Nat.reduceAdd, Nat.reduceSub, List.replicate_succ, List.replicate_zero, List.cons_append, List.nil_append, List.append_nil, List.getElem?_cons_zero, List.getElem?_cons_succ, List.set_cons_zero, List.set_cons_succ, Option.some.injEq, exists_eq_left', DEnds.xd, atI_0, atI_1, atI_2, atI_3, atI_4, atI_5, atI_6, atI_7, ixN_50, ixN_51, ixN_52, ixN_53, ixN_54, ixN_30, ixN_31, ixN_32, put_same, put_put, true_and, and_true, decide_true, decide_false, Bool.not_true, Bool.not_false, Bool.false_eq_true, if_true, if_false, decide_eq_true_eq, Bool.not_eq_true', decide_eq_false_iff_not, mem_one, ex_one, and_self]; exact h
  | some p =>
    obtain ⟨v, b⟩ := p
    rw [e] at h
    dsimp only at h
    unfold numD
    simp only [dSeq, dAsg, dRet, dRetN, dDrop, dRaise, dBreak, dCont, dPar, dAug, dFor, dNext, dSetF, dAugF, dRaiseF, dIfS, dTest, dOp, dVar, dC, dCB, dCons, dNil, dCall, dAndV, dOrV, dNotV, dAndT, dOrT, dNotT, dIf, dTup, dLst, dLstV, dSl, dSlV, rdSlV, oSome, oNone, dNeg, gN, gT, gConsD, gNilD, gSubD, gFldD, dChain, dLc, dBM, isLst, iSeqD, iR1, iR2, iR3, dYes, rdAddV, rdMulV, rdSub, rdDiv, rdMod, rdPow, rdIAdd, rdCmp, rdIsN, isn_non, isn_bl, isn_int, isn_str, isn_ref, isn_tup, isn_rol, isn_obj, rdEqG, rdIx_tup, rdIx_rol, rdIx_put, rdSet, rdLen_tup, rdLen_rol, rdLen_str, rdLen_put, rdInt1, rdInt, rdInt2, rdAppend, rdExt, rdPopAt, rdMaxL, rdMinL, rdListV, rdIsB, isBlV, rdStrI, rdIntS, dFrz, dFld, insOf_put, dMeth, lstOf_rol, lstOf_put, seqOf_tup, seqOf_rol, seqOf_put, frz_tup, frz_rol, frz_int, frz_bl, frz_non, frz_str, frz_obj, startN, wipeD, List.map_cons, List.map_nil, List.length_cons, List.length_nil, Nat.zero_add, Nat.sub_self, Nat.reduceAdd, Nat.reduceSub, List.replicate_succ, List.replicate_zero, List.cons_append, List.nil_append, List.append_nil, List.getElem?_cons_zero, List.getElem?_cons_succ, List.set_cons_zero, List.set_cons_succ, Option.some.injEq, exists_eq_left', DEnds.xd, atI_0, atI_1, atI_2, atI_3, atI_4, atI_5, atI_6, atI_7, ixN_50, ixN_51, ixN_52, ixN_53, ixN_54, ixN_30, ixN_31, ixN_32, put_same, put_put, true_and, and_true, decide_true, decide_false, Bool.not_true, Bool.not_false, Bool.false_eq_true, if_true, if_false, decide_eq_true_eq, Bool.not_eq_true', decide_eq_false_iff_not, mem_one, ex_one, and_self]
    rw [List.length_map]
    by_cases z : (b : Int) + v = (xs.length : Nat)
    · rw [if_pos z] at h
      rw [if_neg (fun y => y z)]
      rw [cut_drop (by omega), Int.toNat_natCast, ← List.map_drop]
      exact h
    · rw [if_neg z] at h
      rw [if_pos z]
      exact h
def sp_read_record (A : Ad) : SpD := fun ds S Q X => ∃ d, ds = [d] ∧ knownL A S d ∧ if isRow d = true then Q (rowD (contF (rowI d))) S else X (.ref A.NoRow) none S
theorem len_read_record (A : Ad) : ∀ ds S Q X, sp_read_record A ds S Q X → ds.length = 1 := by rintro _ _ _ _ ⟨_, rfl, _⟩; rfl
def r_read_record (A : Ad) : DS := (dSeq (dDrop (dCall (sp_check_row A) (dCons (dVar 0) dNil)))
    (dRet (dCall (sp_contents_of A) (dCons (dVar 0) dNil))))
theorem rd_read_record (A : Ad) : Rd (r_read_record A) 1 (sp_read_record A) := by
  rintro ds S Q X ⟨d, rfl, hk, h⟩
  unfold r_read_record
  simp only [dSeq, dAsg, dRet, dRetN, dDrop, dRaise, dBreak, dCont, dPar, dAug, dFor, dNext, dSetF, dAugF, dRaiseF, dIfS, dTest, dOp, dVar, dC, dCB, dCons, dNil, dCall, dAndV, dOrV, dNotV, dAndT, dOrT, dNotT, dIf, dTup, dLst, dLstV, dSl, dSlV, rdSlV, oSome, oNone, dNeg, gN, gT, gConsD, gNilD, gSubD, gFldD, dChain, dLc, dBM, isLst, iSeqD, iR1, iR2, iR3, dYes, rdAddV, rdMulV, rdSub, rdDiv, rdMod, rdPow, rdIAdd, rdCmp, rdIsN, isn_non, isn_bl, isn_int, isn_str, isn_ref, isn_tup, isn_rol, isn_obj, rdEqG, rdIx_tup, rdIx_rol, rdIx_put, rdSet, rdLen_tup, rdLen_rol, rdLen_str, rdLen_put, rdInt1, rdInt, rdInt2, rdAppend, rdExt, rdPopAt, rdMaxL, rdMinL, rdListV, rdIsB, isBlV, rdStrI, rdIntS, dFrz, dFld, insOf_put, dMeth, lstOf_rol, lstOf_put, seqOf_tup, seqOf_rol, seqOf_put, frz_tup, frz_rol, frz_int, frz_bl, frz_non, frz_str, frz_obj, startN, wipeD, List.map_cons, List.map_nil, List.length_cons, List.length_nil, Nat.zero_add, Nat.sub_self, Nat.reduceAdd, Nat.reduceSub, List.replicate_succ, List.replicate_zero, List.cons_append, List.nil_append, List.append_nil, List.getElem?_cons_zero, List.getElem?_cons_succ, List.set_cons_zero, List.set_cons_succ, Option.some.injEq, exists_eq_left', DEnds.xd, atI_0, atI_1, atI_2, atI_3, atI_4, atI_5, atI_6, atI_7, ixN_50, ixN_51, ixN_52, ixN_53, ixN_54, ixN_30, ixN_31, ixN_32, put_same, put_put, true_and, and_true, decide_true, decide_false, Bool.not_true, Bool.not_false, Bool.false_eq_true, if_true, if_false, decide_eq_true_eq, Bool.not_eq_true', decide_eq_false_iff_not, mem_one, ex_one, and_self]
  refine ⟨d, rfl, hk, ?_⟩
  cases e : isRow d with
  | false => rw [if_neg (by rw [e]; decide)] at h; rw [if_neg (by decide)]; exact h
  | true =>
    rw [if_pos e] at h
    obtain ⟨e1, e2⟩ := row_is e
    rw [if_pos rfl]
    simp only [dSeq, dAsg, dRet, dRetN, dDrop, dRaise, dBreak, dCont, dPar, dAug, dFor, dNext, dSetF, dAugF, dRaiseF, dIfS, dTest, dOp, dVar, dC, dCB, dCons, dNil, dCall, dAndV, dOrV, dNotV, dAndT, dOrT, dNotT, dIf, dTup, dLst, dLstV, dSl, dSlV, rdSlV, oSome, oNone, dNeg, gN, gT, gConsD, gNilD, gSubD, gFldD, dChain, dLc, dBM, isLst, iSeqD, iR1, iR2, iR3, dYes, rdAddV, rdMulV, rdSub, rdDiv, rdMod, rdPow, rdIAdd, rdCmp, rdIsN, isn_non, isn_bl, isn_int, isn_str, isn_ref, isn_tup, isn_rol, isn_obj, rdEqG, rdIx_tup, rdIx_rol, rdIx_put, rdSet, rdLen_tup, rdLen_rol, rdLen_str, rdLen_put, rdInt1, rdInt, rdInt2, rdAppend, rdExt, rdPopAt, rdMaxL, rdMinL, rdListV, rdIsB, isBlV, rdStrI, rdIntS, dFrz, dFld, insOf_put, dMeth, lstOf_rol, lstOf_put, seqOf_tup, seqOf_rol, seqOf_put, frz_tup, frz_rol, frz_int, frz_bl, frz_non, frz_str, frz_obj, startN, wipeD, List.map_cons, List.map_nil, List.length_cons, List.length_nil, Nat.zero_add, Nat.sub_self, Nat.reduceAdd, Nat.reduceSub, List.replicate_succ, List.replicate_zero, List.cons_append, List.nil_append, List.append_nil, List.getElem?_cons_zero, List.getElem?_cons_succ, List.set_cons_zero, List.set_cons_succ, Option.some.injEq, exists_eq_left', DEnds.xd, atI_0, atI_1, atI_2, atI_3, atI_4, atI_5, atI_6, atI_7, ixN_50, ixN_51, ixN_52, ixN_53, ixN_54, ixN_30, ixN_31, ixN_32, put_same, put_put, true_and, and_true, decide_true, decide_false, Bool.not_true, Bool.not_false, Bool.false_eq_true, if_true, if_false, decide_eq_true_eq, Bool.not_eq_true', decide_eq_false_iff_not, mem_one, ex_one, and_self]
    exact ⟨rowI d, by rw [← e1], e2, h⟩
end Lw

namespace Lw
open PySem PySem.Spec PyProof.Rows L2 VD
/-! ### what repr can show -/
def neat : Nat → Dv → Prop
  | 0, _ => False
  | n + 1, d => match d with
    | .non => True
    | .bl _ => True
    | .int i => i.natAbs < 10 ^ 30
    | .str x => ∀ c ∈ x.cps.toList, c < 128
    | .tup xs => ∀ x ∈ xs, neat n x
    | .rol xs => ∀ x ∈ xs, neat n x
    | _ => False
theorem neat_up : ∀ {n : Nat} {d : Dv}, neat n d → neat (n + 1) d
  | 0, _, h => h.elim
  | n + 1, d, h => by
    cases d with
    | tup xs => exact fun x hx => neat_up (h x hx)
    | rol xs => exact fun x hx => neat_up (h x hx)
    | _ => exact h
theorem neat_le {n m : Nat} {d : Dv} (h : neat n d) (l : n ≤ m) : neat m d := by
  induction l with
  | refl => exact h
  | step _ ih => exact neat_up ih
theorem int_short {i : Int} (h : i.natAbs < 10 ^ 30) : (PyData.shown (.int i)).length ≤ 32 ∧ i.natAbs.log2 < 1920 := by
  refine ⟨?_, ?_⟩
  · have h1 := int_text_length_le10 (a := i) (k := 30) (by decide) h
    have e : (PyData.shown (.int i)).length = (Str.ofString (toString i)).length := rfl
    rw [e, PySem.ofString_length]
    omega
  · exact Nat.lt_of_lt_of_le (PySem.Flt.log2_lt_of (k := 100) (by decide) (Nat.lt_of_lt_of_le h (by decide))) (by decide)
mutual
theorem neat_ok : ∀ (n : Nat) (d : Dv), neat n d → isD d = true ∧ (py d).showable = true ∧ (py d).hasDict = false ∧ (py d).depth ≤ n ∧ (py d).leavesShort 32 = true
  | 0, _, h => h.elim
  | n + 1, .non, _ => ⟨rfl, rfl, rfl, by simp [py, PyData.depth], rfl⟩
  | n + 1, .bl _, _ => ⟨rfl, rfl, rfl, by simp [py, PyData.depth], rfl⟩
  | n + 1, .int i, h => ⟨rfl, by simpa [py, PyData.showable] using (int_short h).2, rfl, by simp [py, PyData.depth], by simpa [py, PyData.leavesShort] using (int_short h).1⟩
  | n + 1, .str x, h => ⟨rfl, rfl, rfl, by simp [py, PyData.depth], by
      simp only [py, PyData.leavesShort, List.all_eq_true, decide_eq_true_eq]
      exact fun c hc => Nat.lt_of_lt_of_le (h c hc) (by decide)⟩
  | n + 1, .tup xs, h => by
    obtain ⟨a, b, c, d, e⟩ := neat_okL n xs h
    exact ⟨by simpa [isD] using a, by simpa [py, PyData.showable] using b, by simpa [py, PyData.hasDict] using c, by simp only [py, PyData.depth]; omega, by simpa [py, PyData.leavesShort] using e⟩
  | n + 1, .rol xs, h => by
    obtain ⟨a, b, c, d, e⟩ := neat_okL n xs h
    exact ⟨by simpa [isD] using a, by simpa [py, PyData.showable] using b, by simpa [py, PyData.hasDict] using c, by simp only [py, PyData.depth]; omega, by simpa [py, PyData.leavesShort] using e⟩
  | n + 1, .ty _, h => h.elim
  | n + 1, .ref _, h => h.elim
  | n + 1, .rod _ _, h => h.elim
  | n + 1, .obj _ _ _, h => h.elim
theorem neat_okL : ∀ (n : Nat) (xs : List Dv), (∀ x ∈ xs, neat n x) → isDL xs = true ∧ PyData.showableAll (pyL xs) = true ∧ PyData.hasDictAll (pyL xs) = false ∧ PyData.depthAll (pyL xs) ≤ n ∧ PyData.leavesShortAll 32 (pyL xs) = true
  | n, [], _ => ⟨rfl, rfl, rfl, Nat.zero_le _, rfl⟩
  | n, x :: xs, h => by
    obtain ⟨a1, b1, c1, d1, e1⟩ := neat_ok n x (h x (by simp))
    obtain ⟨a2, b2, c2, d2, e2⟩ := neat_okL n xs fun y hy => h y (by simp [hy])
    refine ⟨by simp [isDL, a1, a2], by simp [pyL, PyData.showableAll, b1, b2], by simp [pyL, PyData.hasDictAll, c1, c2], by simp only [pyL, PyData.depthAll]; omega, by simp [pyL, PyData.leavesShortAll, e1, e2]⟩
end
theorem shw_neat {n : Nat} {d : Dv} (h : neat n d) (hn : n ≤ 64) (hb : (py d).bulk ≤ 400000) : shwD d = true := by
  obtain ⟨a, b, c, e, f⟩ := neat_ok n d h
  have g := PyData.shown_le_bulk 32 (by decide) _ f
  unfold shwD
  simp only [Bool.and_eq_true, decide_eq_true_eq, Bool.not_eq_true']
  refine ⟨⟨⟨⟨a, b⟩, c⟩, by omega⟩, ?_⟩
  rw [sizeLine_eq]
  omega
theorem bulk_ints : ∀ ns : List Int, PyData.bulkAll (pyL (List.map Dv.int ns)) = ns.length
  | [] => rfl
  | n :: ns => by
    rw [List.map_cons]
    simp only [pyL, py, PyData.bulkAll, PyData.bulk, bulk_ints ns, List.length_cons]
    omega
abbrev Bts (ns : List Int) : Prop := ∀ n ∈ ns, 0 ≤ n ∧ n < 256
theorem neat_ints {n : Nat} {ns : List Int} (h : Bts ns) : neat (n + 2) (.tup (List.map Dv.int ns)) := by
  intro x hx
  obtain ⟨i, hi, rfl⟩ := List.mem_map.mp hx
  have := h i hi
  show i.natAbs < 10 ^ 30
  omega
theorem shw_ints {ns : List Int} (h : Bts ns) (hl : ns.length ≤ 400000) : shwD (.tup (List.map Dv.int ns)) = true :=
  shw_neat (n := 2) (neat_ints h) (by decide) (by simp only [py, PyData.bulk, bulk_ints]; exact hl)
theorem shw_int {i : Int} (h : i.natAbs < 10 ^ 30) : shwD (.int i) = true := shw_neat (n := 1) h (by decide) (by simp [py, PyData.bulk])
/-- the same shown twice -/
def sp__law_is (A : Ad) : SpD := fun ds S Q _ => ∃ x y d, ds = [x, y] ∧ valOf x S = d ∧ valOf y S = d ∧ shwD d = true ∧ Q (.bl true) S
theorem len__law_is (A : Ad) : ∀ ds S Q X, sp__law_is A ds S Q X → ds.length = 2 := by rintro _ _ _ _ ⟨_, _, _, rfl, _⟩; rfl
def r__law_is (A : Ad) : DS := (dRet (dOp rdEq (dCB rdRepr (dCons (dVar 0) dNil)) (dCB rdRepr (dCons (dVar 1) dNil))))
theorem rd__law_is (A : Ad) : Rd (r__law_is A) 2 (sp__law_is A) := by
  rintro ds S Q X ⟨x, y, d, rfl, hx, hy, hs, h⟩
  unfold r__law_is
  simp only [dSeq, dAsg, dRet, dRetN, dDrop, dRaise, dBreak, dCont, dPar, dAug, dFor, dNext, dSetF, dAugF, dRaiseF, dIfS, dTest, dOp, dVar, dC, dCB, dCons, dNil, dCall, dAndV, dOrV, dNotV, dAndT, dOrT, dNotT, dIf, dTup, dLst, dLstV, dSl, dSlV, rdSlV, oSome, oNone, dNeg, gN, gT, gConsD, gNilD, gSubD, gFldD, dChain, dLc, dBM, isLst, iSeqD, iR1, iR2, iR3, dYes, rdAddV, rdMulV, rdSub, rdDiv, rdMod, rdPow, rdIAdd, rdCmp, rdIsN, isn_non, isn_bl, isn_int, isn_str, isn_ref, isn_tup, isn_rol, isn_obj, rdEqG, rdIx_tup, rdIx_rol, rdIx_put, rdSet, rdLen_tup, rdLen_rol, rdLen_str, rdLen_put, rdInt1, rdInt, rdInt2, rdAppend, rdExt, rdPopAt, rdMaxL, rdMinL, rdListV, rdIsB, isBlV, rdStrI, rdIntS, dFrz, dFld, insOf_put, dMeth, lstOf_rol, lstOf_put, seqOf_tup, seqOf_rol, seqOf_put, frz_tup, frz_rol, frz_int, frz_bl, frz_non, frz_str, frz_obj, startN, wipeD, List.map_cons, List.map_nil, List.length_cons, List.length_nil, Nat.zero_add, Nat.sub_self, Nat.reduceAdd, Nat.reduceSub, List.replicate_succ, List.replicate_zero, List.cons_append, List.nil_append, List.append_nil, List.getElem?_cons_zero, List.getElem?_cons_succ, List.set_cons_zero, List.set_cons_succ, Option.some.injEq, exists_eq_left', DEnds.xd, atI_0, atI_1, atI_2, atI_3, atI_4, atI_5, atI_6, atI_7, ixN_50, ixN_51, ixN_52, ixN_53, ixN_54, ixN_30, ixN_31, ixN_32, put_same, put_put, true_and, and_true, decide_true, decide_false, Bool.not_true, Bool.not_false, Bool.false_eq_true, if_true, if_false, decide_eq_true_eq, Bool.not_eq_true', decide_eq_false_iff_not, mem_one, ex_one, and_self]
  unfold VD.rdRepr
  dsimp only
  rw [hx, hy]
  refine ⟨hs, hs, ?_⟩
  simp only [dSeq, dAsg, dRet, dRetN, dDrop, dRaise, dBreak, dCont, dPar, dAug, dFor, dNext, dSetF, dAugF, dRaiseF, dIfS, dTest, dOp, dVar, dC, dCB, dCons, dNil, dCall, dAndV, dOrV, dNotV, dAndT, dOrT, dNotT, dIf, dTup, dLst, dLstV, dSl, dSlV, rdSlV, oSome, oNone, dNeg, gN, gT, gConsD, gNilD, gSubD, gFldD, dChain, dLc, dBM, isLst, iSeqD, iR1, iR2, iR3, dYes, rdAddV, rdMulV, rdSub, rdDiv, rdMod, rdPow, rdIAdd, rdCmp, rdIsN, isn_non, isn_bl, isn_int, isn_str, isn_ref, isn_tup, isn_rol, isn_obj, rdEqG, rdIx_tup, rdIx_rol, rdIx_put, rdSet, rdLen_tup, rdLen_rol, rdLen_str, rdLen_put, rdInt1, rdInt, rdInt2, rdAppend, rdExt, rdPopAt, rdMaxL, rdMinL, rdListV, rdIsB, isBlV, rdStrI, rdIntS, dFrz, dFld, insOf_put, dMeth, lstOf_rol, lstOf_put, seqOf_tup, seqOf_rol, seqOf_put, frz_tup, frz_rol, frz_int, frz_bl, frz_non, frz_str, frz_obj, startN, wipeD, List.map_cons, List.map_nil, List.length_cons, List.length_nil, Nat.zero_add, Nat.sub_self, Nat.reduceAdd, Nat.reduceSub, List.replicate_succ, List.replicate_zero, List.cons_append, List.nil_append, List.append_nil, List.getElem?_cons_zero, List.getElem?_cons_succ, List.set_cons_zero, List.set_cons_succ, Option.some.injEq, exists_eq_left', DEnds.xd, atI_0, atI_1, atI_2, atI_3, atI_4, atI_5, atI_6, atI_7, ixN_50, ixN_51, ixN_52, ixN_53, ixN_54, ixN_30, ixN_31, ixN_32, put_same, put_put, true_and, and_true, decide_true, decide_false, Bool.not_true, Bool.not_false, Bool.false_eq_true, if_true, if_false, decide_eq_true_eq, Bool.not_eq_true', decide_eq_false_iff_not, mem_one, ex_one, and_self]
  exact h
theorem is_sh {A : Ad} {d : Dv} {S : Sto} {Q : QD} {X : XD} (hd : isPl d = true) (h : shwD d = true) (q : Q (.bl true) S) : sp__law_is A [d, d] S Q X := by
  have e : valOf d S = d := by cases d <;> first | rfl | cases hd
  exact ⟨d, d, d, rfl, e, e, h, q⟩
end Lw

namespace Lw
open PySem PySem.Spec PyProof.Rows L2 VD
/-! ### the law's hand over a store: [seed, count, cells] at a, the cells at c; what else is known is B -/
def IsH (a c : Addr) (B S : Sto) : Prop := ∃ (k n : Int) (cells : List Int), c ≠ a ∧ True ∧ S = put (put B c (.lst (List.map Dv.int cells))) a (.lst [.int k, .int n, .ref c])
section
variable {B S T : Sto} {a c p : Addr} {m : MO}
theorem IsH.ca (h : IsH a c B S) : c ≠ a := by
  obtain ⟨k, n, cells, hca, _⟩ := h; exact hca
theorem IsH.at_ (h : IsH a c B S) (ha : p ≠ a) (hc : p ≠ c) : S p = B p := by
  obtain ⟨k, n, cells, hca, hi, rfl⟩ := h
  rw [put_ne ha, put_ne hc]
theorem IsH.free (h : IsH a c B S) (hp : S p = none) : p ≠ a ∧ p ≠ c ∧ B p = none := by
  have h0 := h
  obtain ⟨k, n, cells, hca, hi, rfl⟩ := h
  have ha : p ≠ a := fun e => by subst e; rw [put_same] at hp; cases hp
  have hc : p ≠ c := fun e => by subst e; rw [put_ne ha, put_same] at hp; cases hp
  exact ⟨ha, hc, by rw [← h0.at_ ha hc]; exact hp⟩
theorem IsH.wr (h : IsH a c B S) (ha : p ≠ a) (hc : p ≠ c) : IsH a c (put B p m) (put S p m) := by
  obtain ⟨k, n, cells, hca, hi, rfl⟩ := h
  refine ⟨k, n, cells, hca, hi, ?_⟩
  rw [put_comm ha.symm, put_comm hc.symm]
theorem IsH.new (h : IsH a c B S) (hp : S p = none) : IsH a c (put B p m) (put S p m) := h.wr (h.free hp).1 (h.free hp).2.1
theorem IsH.rm (h : IsH a c B S) (ha : p ≠ a) (hc : p ≠ c) : IsH a c (VD.rm B p) (VD.rm S p) := by
  obtain ⟨k, n, cells, hca, hi, rfl⟩ := h
  refine ⟨k, n, cells, hca, hi, ?_⟩
  funext b
  unfold VD.rm put
  by_cases h1 : b = p
  · subst h1
    simp [ha, hc]
  · simp [h1]
theorem IsH.rmNew (h : IsH a c (put B p m) S) (hB : B p = none) (ha : p ≠ a) (hc : p ≠ c) : IsH a c B (VD.rm S p) := by
  have := h.rm ha hc
  rwa [rm_put hB] at this
theorem IsH.sub (h : IsH a c B S) (hB : B a = none) (hC : B c = none) : Sub B S := fun b m e => by
  rw [h.at_ (fun z => by subst z; rw [hB] at e; cases e) (fun z => by subst z; rw [hC] at e; cases e)]
  exact e
end
def sp__law_draw (A : Ad) : SpD := fun ds S Q _ => ∃ a c B m, ds = [.ref a, .int m] ∧ IsH a c B S ∧ 0 < m ∧ m.natAbs < 2 ^ 8000 ∧ ∀ r S', IsH a c B S' → 0 ≤ r → r < m → Q (.int r) S'
theorem len__law_draw (A : Ad) : ∀ ds S Q X, sp__law_draw A ds S Q X → ds.length = 2 := by rintro _ _ _ _ ⟨_, _, _, _, rfl, _⟩; rfl
/-- how a draw is asked for -/
theorem ask {A : Ad} {a c : Addr} {B S : Sto} {m : Int} {Q : QD} {X : XD} (hH : IsH a c B S) (q : ∀ r S', IsH a c B S' → 0 ≤ r → r < m → Q (.int r) S') (hm : 0 < m := by decide) (hm2 : m < 2 ^ 64 := by decide) : sp__law_draw A [.ref a, .int m] S Q X :=
  ⟨a, c, B, m, rfl, hH, hm, Nat.lt_of_lt_of_le (show m.natAbs < 2 ^ 64 by omega) (Nat.pow_le_pow_right (by decide) (by decide)), q⟩
/-- a comprehension whose element draws: what holds of each item, by place -/
theorem lcV_hand {g : DG} {te : DE} {vs : List Nat} {ρ : Rho} {Q : QD} {items : List Dv} {stay : Sto → Prop} {B S : Sto} {a c : Addr} (P : Nat → Dv → Prop) (hH : IsH a c B S) (hl : items.length ≤ sizeLine)
    (hst : ∀ B' T, Sub B B' → IsH a c B' T → stay T)
    (he : ∀ i x, items[i]? = some x → ∀ (B' T : Sto) (K : QD), Sub B B' → IsH a c B' T → (∀ y T', P i y → IsH a c B' T' → K y T') → g x (wipeD ρ vs) T fun ρ2 S2 => te ρ2 S2 K X0)
    (hQ : ∀ acc T, IsH a c B T → acc.length = items.length → (∀ i y, acc[i]? = some y → P i y) → Q (.rol acc) T) : LcGo g dYes te vs ρ (fun d S1 => frzD d S1 Q) items stay S := by
  intro p hp
  obtain ⟨ha, hc, hB⟩ := hH.free hp
  refine ⟨fun i T => ∃ acc : List Dv, acc.length = i ∧ (∀ j y, acc[j]? = some y → P j y) ∧ IsH a c (put B p (.lst acc)) T, ⟨[], rfl, fun j y h => by simp at h, hH.new hp⟩, fun i T _ ⟨acc, _, _, h⟩ => hst _ T (Sub.new hB) h, fun i x T hx ⟨acc, h4, h5, h⟩ => ?_, fun T ⟨acc, h4, h5, h⟩ => ?_⟩
  · refine he i x hx _ T _ (Sub.new hB) h fun y T' hy ht => ⟨acc, by rw [ht.at_ ha hc, put_same], ?_, acc ++ [y], by simp [h4], fun j z hz => ?_, ?_⟩
    · have := (List.getElem?_eq_some_iff.mp hx).1
      omega
    · by_cases hj : j < acc.length
      · rw [List.getElem?_append_left hj] at hz
        exact h5 j z hz
      · rw [List.getElem?_append_right (by omega)] at hz
        have e : j = i := by
          have := (List.getElem?_eq_some_iff.mp hz).1
          simp at this
          omega
        subst e
        rw [h4, Nat.sub_self] at hz
        cases hz
        exact hy
    · have := ht.wr (m := .lst (acc ++ [y])) ha hc
      rwa [put_put] at this
  · unfold frzD
    dsimp only
    rw [h.at_ ha hc, put_same]
    exact hQ acc _ (h.rmNew hB ha hc) h4 h5
/-- items that are ints -/
theorem ints_of {P : Int → Prop} : ∀ {acc : List Dv}, (∀ (i : Nat) y, acc[i]? = some y → ∃ r, y = .int r ∧ P r) → ∃ ns : List Int, acc = List.map Dv.int ns ∧ ∀ n ∈ ns, P n
  | [], _ => ⟨[], rfl, fun _ h => by cases h⟩
  | y :: acc, h => by
    obtain ⟨r, rfl, hr⟩ := h 0 y rfl
    obtain ⟨ns, rfl, hn⟩ := ints_of (P := P) (acc := acc) fun i y hy => h (i + 1) y hy
    exact ⟨r :: ns, rfl, fun n hm => by rcases List.mem_cons.mp hm with rfl | hm; exact hr; exact hn n hm⟩
theorem mul_small {i j : Int} (h : 0 ≤ i) (h2 : i < 2147483647) : IntMulOk i j := mulok_l (by omega) (by omega)
def sp__law_pool (A : Ad) : SpD := fun ds S Q _ => ∃ ns : List Int, ds = [.rol (List.map Dv.int ns)] ∧ ns.length ≤ 63 ∧ ∀ a c S', S a = none → S c = none → IsH a c S S' → Q (.ref a) S'
theorem len__law_pool (A : Ad) : ∀ ds S Q X, sp__law_pool A ds S Q X → ds.length = 1 := by rintro _ _ _ _ ⟨_, rfl, _⟩; rfl
def r__law_pool (A : Ad) : DS := (dSeq (dAsg (dOp rdAddV (dOp rdAddV (dOp rdMod (dCB rdInt (dCons (dCB rdSum (dCons (dSlV (dVar 0) oNone (oSome (dC (.int 1)))) dNil)) dNil)) (dC (.int 1000003))) (dCB rdLen (dCons (dVar 0) dNil))) (dC (.int 1))) (gN 1))
    (dSeq (dFor (iSeqD (dSlV (dVar 0) oNone (oSome (dC (.int 63))))) (gN 2) (dAsg (dOp rdMod (dCB rdInt (dCons (dOp rdAddV (dOp rdAddV (dOp rdMulV (dVar 1) (dC (.int 48271))) (dOp rdMod (dCB rdInt (dCons (dVar 2) dNil)) (dC (.int 2147483629)))) (dC (.int 11))) dNil)) (dC (.int 2147483647))) (gN 1)))
    (dRet (dLst (dCons (dVar 1) (dCons (dC (.int 0)) (dCons (dLc (iSeqD (dSlV (dVar 0) oNone (oSome (dC (.int 63))))) (gN 2) (dTest (dOp rdGe (dCB (rdInt1 fun i => .int (if i < 0 then -i else i)) (dCons (dVar 2) dNil)) (dOp rdPow (dC (.int 10)) (dC (.int 18))))) (dCB (rdInt1 fun i => .int (if i < 0 then -i else i)) (dCons (dVar 2) dNil)) [2]) dNil)))))))
theorem rd__law_pool (A : Ad) : Rd (r__law_pool A) 3 (sp__law_pool A) := by
  rintro ds S Q X ⟨ns, rfl, hl, h⟩
  unfold r__law_pool
  simp only [dSeq, dAsg, dRet, dRetN, dDrop, dRaise, dBreak, dCont, dPar, dAug, dFor, dNext, dSetF, dAugF, dRaiseF, dIfS, dTest, dOp, dVar, dC, dCB, dCons, dNil, dCall, dAndV, dOrV, dNotV, dAndT, dOrT, dNotT, dIf, dTup, dLst, dLstV, dSl, dSlV, rdSlV, oSome, oNone, dNeg, gN, gT, gConsD, gNilD, gSubD, gFldD, dChain, dLc, dBM, isLst, iSeqD, iR1, iR2, iR3, dYes, rdAddV, rdMulV, rdSub, rdDiv, rdMod, rdPow, rdIAdd, rdCmp, rdIsN, isn_non, isn_bl, isn_int, isn_str, isn_ref, isn_tup, isn_rol, isn_obj, rdEqG, rdIx_tup, rdIx_rol, rdIx_put, rdSet, rdLen_tup, rdLen_rol, rdLen_str, rdLen_put, rdInt1, rdInt, rdInt2, rdAppend, rdExt, rdPopAt, rdMaxL, rdMinL, rdListV, rdIsB, isBlV, rdStrI, rdIntS, dFrz, dFld, insOf_put, dMeth, lstOf_rol, lstOf_put, seqOf_tup, seqOf_rol, seqOf_put, frz_tup, frz_rol, frz_int, frz_bl, frz_non, frz_str, frz_obj, startN, wipeD, List.map_cons, List.map_nil, List.length_cons, List.length_nil, Nat.zero_add, Nat.sub_self, Nat.reduceAdd, Nat.reduceSub, List.replicate_succ, List.replicate_zero, List.cons_append, List.nil_append, List.append_nil, List.getElem?_cons_zero, List.getElem?_cons_succ, List.set_cons_zero, List.set_cons_succ, Option.some.injEq, exists_eq_left', DEnds.xd, atI_0, atI_1, atI_2, atI_3, atI_4, atI_5, atI_6, atI_7, ixN_50, ixN_51, ixN_52, ixN_53, ixN_54, ixN_30, ixN_31, ixN_32, put_same, put_put, true_and, and_true, decide_true, decide_false, Bool.not_true, Bool.not_false, Bool.false_eq_true, if_true, if_false, decide_eq_true_eq, Bool.not_eq_true', decide_eq_false_iff_not, mem_one, ex_one, and_self]
  rw [cut_take (by decide), cut_take (by decide), ← List.map_take, ← List.map_take]
  refine ⟨ns.take 1, rfl, S, Sub.refl S, by decide, ?_⟩
  refine for_go (fun j ρ T => T = S ∧ ∃ k y, ρ = [some (.rol (List.map Dv.int ns)), some (.int k), y]) ⟨rfl, _, _, rfl⟩ (fun _ _ _ _ _ => trivial) (fun j x ρ T hx hw => ?_) fun ρ T hw => ?_
  · obtain ⟨rfl, k, y, rfl⟩ := hw
    obtain ⟨i, _, rfl⟩ := map_get hx
    simp only [dSeq, dAsg, dRet, dRetN, dDrop, dRaise, dBreak, dCont, dPar, dAug, dFor, dNext, dSetF, dAugF, dRaiseF, dIfS, dTest, dOp, dVar, dC, dCB, dCons, dNil, dCall, dAndV, dOrV, dNotV, dAndT, dOrT, dNotT, dIf, dTup, dLst, dLstV, dSl, dSlV, rdSlV, oSome, oNone, dNeg, gN, gT, gConsD, gNilD, gSubD, gFldD, dChain, dLc, dBM, isLst, iSeqD, iR1, iR2, iR3, dYes, rdAddV, rdMulV, rdSub, rdDiv, rdMod, rdPow, rdIAdd, rdCmp, rdIsN, isn_non, isn_bl, isn_int, isn_str, isn_ref, isn_tup, isn_rol, isn_obj, rdEqG, rdIx_tup, rdIx_rol, rdIx_put, rdSet, rdLen_tup, rdLen_rol, rdLen_str, rdLen_put, rdInt1, rdInt, rdInt2, rdAppend, rdExt, rdPopAt, rdMaxL, rdMinL, rdListV, rdIsB, isBlV, rdStrI, rdIntS, dFrz, dFld, insOf_put, dMeth, lstOf_rol, lstOf_put, seqOf_tup, seqOf_rol, seqOf_put, frz_tup, frz_rol, frz_int, frz_bl, frz_non, frz_str, frz_obj, startN, wipeD, List.map_cons, List.map_nil, List.length_cons, List.length_nil, Nat.zero_add, Nat.sub_self, Nat.reduceAdd, Nat.reduceSub, List.replicate_succ, List.replicate_zero, List.cons_append, List.nil_append, List.append_nil, List.getElem?_cons_zero, List.getElem?_cons_succ, List.set_cons_zero, List.set_cons_succ, Option.some.injEq, exists_eq_left', DEnds.xd, atI_0, atI_1, atI_2, atI_3, atI_4, atI_5, atI_6, atI_7, ixN_50, ixN_51, ixN_52, ixN_53, ixN_54, ixN_30, ixN_31, ixN_32, put_same, put_put, true_and, and_true, decide_true, decide_false, Bool.not_true, Bool.not_false, Bool.false_eq_true, if_true, if_false, decide_eq_true_eq, Bool.not_eq_true', decide_eq_false_iff_not, mem_one, ex_one, and_self]
    exact ⟨mulok_r (by decide) (by decide), by decide, by decide, _, _, rfl⟩
  · obtain ⟨rfl, k, y, rfl⟩ := hw
    simp only [dSeq, dAsg, dRet, dRetN, dDrop, dRaise, dBreak, dCont, dPar, dAug, dFor, dNext, dSetF, dAugF, dRaiseF, dIfS, dTest, dOp, dVar, dC, dCB, dCons, dNil, dCall, dAndV, dOrV, dNotV, dAndT, dOrT, dNotT, dIf, dTup, dLst, dLstV, dSl, dSlV, rdSlV, oSome, oNone, dNeg, gN, gT, gConsD, gNilD, gSubD, gFldD, dChain, dLc, dBM, isLst, iSeqD, iR1, iR2, iR3, dYes, rdAddV, rdMulV, rdSub, rdDiv, rdMod, rdPow, rdIAdd, rdCmp, rdIsN, isn_non, isn_bl, isn_int, isn_str, isn_ref, isn_tup, isn_rol, isn_obj, rdEqG, rdIx_tup, rdIx_rol, rdIx_put, rdSet, rdLen_tup, rdLen_rol, rdLen_str, rdLen_put, rdInt1, rdInt, rdInt2, rdAppend, rdExt, rdPopAt, rdMaxL, rdMinL, rdListV, rdIsB, isBlV, rdStrI, rdIntS, dFrz, dFld, insOf_put, dMeth, lstOf_rol, lstOf_put, seqOf_tup, seqOf_rol, seqOf_put, frz_tup, frz_rol, frz_int, frz_bl, frz_non, frz_str, frz_obj, startN, wipeD, List.map_cons, List.map_nil, List.length_cons, List.length_nil, Nat.zero_add, Nat.sub_self, Nat.reduceAdd, Nat.reduceSub, List.replicate_succ, List.replicate_zero, List.cons_append, List.nil_append, List.append_nil, List.getElem?_cons_zero, List.getElem?_cons_succ, List.set_cons_zero, List.set_cons_succ, Option.some.injEq, exists_eq_left', DEnds.xd, atI_0, atI_1, atI_2, atI_3, atI_4, atI_5, atI_6, atI_7, ixN_50, ixN_51, ixN_52, ixN_53, ixN_54, ixN_30, ixN_31, ixN_32, put_same, put_put, true_and, and_true, decide_true, decide_false, Bool.not_true, Bool.not_false, Bool.false_eq_true, if_true, if_false, decide_eq_true_eq, Bool.not_eq_true', decide_eq_false_iff_not, mem_one, ex_one, and_self]
    rw [cut_take (by decide), ← List.map_take]
    let ab : Dv → Int := fun d => if ivl d < 0 then -ivl d else ivl d
    refine lc_filter (fun d => decide ((10 : Int) ^ Int.toNat 18 ≤ ab d)) (fun d => .int (ab d)) (by rw [sizeLine_eq, List.length_map, List.length_take]; omega) (fun _ _ _ => trivial) (fun x hx U K N hs k1 k2 => ?_) fun c hc => ?_
    · obtain ⟨i, _, rfl⟩ := List.mem_map.mp hx
      have e : ab (.int i) = if i < 0 then -i else i := rfl
      simp only [dSeq, dAsg, dRet, dRetN, dDrop, dRaise, dBreak, dCont, dPar, dAug, dFor, dNext, dSetF, dAugF, dRaiseF, dIfS, dTest, dOp, dVar, dC, dCB, dCons, dNil, dCall, dAndV, dOrV, dNotV, dAndT, dOrT, dNotT, dIf, dTup, dLst, dLstV, dSl, dSlV, rdSlV, oSome, oNone, dNeg, gN, gT, gConsD, gNilD, gSubD, gFldD, dChain, dLc, dBM, isLst, iSeqD, iR1, iR2, iR3, dYes, rdAddV, rdMulV, rdSub, rdDiv, rdMod, rdPow, rdIAdd, rdCmp, rdIsN, isn_non, isn_bl, isn_int, isn_str, isn_ref, isn_tup, isn_rol, isn_obj, rdEqG, rdIx_tup, rdIx_rol, rdIx_put, rdSet, rdLen_tup, rdLen_rol, rdLen_str, rdLen_put, rdInt1, rdInt, rdInt2, rdAppend, rdExt, rdPopAt, rdMaxL, rdMinL, rdListV, rdIsB, isBlV, rdStrI, rdIntS, dFrz, dFld, insOf_put, dMeth, lstOf_rol, lstOf_put, seqOf_tup, seqOf_rol, seqOf_put, frz_tup, frz_rol, frz_int, frz_bl, frz_non, frz_str, frz_obj, startN, wipeD, List.map_cons, List.map_nil, List.length_cons, List.length_nil, Nat.zero_add, Nat.sub_self, Nat.reduceAdd, Nat.reduceSub, List.replicate_succ, List.replicate_zero, List.cons_append, List.nil_append, List.append_nil, List.getElem?_cons_zero, List.getElem?_cons_succ, List.set_cons_zero, List.set_cons_succ, Option.some.injEq, exists_eq_left', DEnds.xd, atI_0, atI_1, atI_2, atI_3, atI_4, atI_5, atI_6, atI_7, ixN_50, ixN_51, ixN_52, ixN_53, ixN_54, ixN_30, ixN_31, ixN_32, put_same, put_put, true_and, and_true, decide_true, decide_false, Bool.not_true, Bool.not_false, Bool.false_eq_true, if_true, if_false, decide_eq_true_eq, Bool.not_eq_true', decide_eq_false_iff_not, mem_one, ex_one, and_self]
      rw [e] at k1 k2
      refine ⟨⟨by decide, by decide, by decide⟩, ?_⟩
      by_cases z : (10 : Int) ^ Int.toNat 18 ≤ (if i < 0 then -i else i)
      · rw [if_pos z]; exact k1 (decide_eq_true z)
      · rw [if_neg z]; exact k2 (decide_eq_false z)
    · have em : ((List.map Dv.int (ns.take (Int.toNat 63))).filter (fun d => decide ((10 : Int) ^ Int.toNat 18 ≤ ab d))).map (fun d => Dv.int (ab d)) = List.map Dv.int (((List.map Dv.int (ns.take (Int.toNat 63))).filter (fun d => decide ((10 : Int) ^ Int.toNat 18 ≤ ab d))).map ab) := by rw [List.map_map]; rfl
      rw [em]
      refine ⟨slK, fun a ha => ?_⟩
      have hca : c ≠ a := ne_of put_same ha
      exact h a c _ (by rwa [put_ne hca.symm] at ha) hc ⟨_, _, _, hca, trivial, rfl⟩
def r__law_draw (A : Ad) : DS := (dSeq (dAsg (dOp rdAddV (dOp rdIx (dVar 0) (dC (.int 1))) (dC (.int 1))) (gSubD rdSet (dVar 0) (dC (.int 1))))
    (dSeq (dAsg (dOp rdIx (dVar 0) (dC (.int 2))) (gN 2))
    (dSeq (dIfS (dTest (dOp rdGt (dCB rdLen (dCons (dVar 2) dNil)) (dC (.int 0)))) (dSeq (dAsg (dOp rdMod (dCB rdInt (dCons (dOp rdIx (dVar 2) (dC (.int 0))) dNil)) (dVar 1)) (gN 3))
    (dSeq (dAsg (dOp rdDiv (dCB rdInt (dCons (dOp rdIx (dVar 2) (dC (.int 0))) dNil)) (dVar 1)) (gSubD rdSet (dVar 2) (dC (.int 0))))
    (dSeq (dIfS (dTest (dOp rdEq (dOp rdIx (dVar 2) (dC (.int 0))) (dC (.int 0)))) (dDrop (dBM rdPopAt (dVar 2) (dCons (dC (.int 0)) dNil))) dNext)
    (dRet (dVar 3))))) dNext)
    (dSeq (dAsg (dOp rdMod (dCB rdInt (dCons (dOp rdMulV (dOp rdAddV (dOp rdIx (dVar 0) (dC (.int 0))) (dOp rdMulV (dC (.int 7919)) (dOp rdIx (dVar 0) (dC (.int 1))))) (dC (.int 48271))) dNil)) (dC (.int 2147483647))) (gN 4))
    (dSeq (dAsg (dOp rdMod (dCB rdInt (dCons (dOp rdMulV (dVar 4) (dOp rdAddV (dOp rdDiv (dVar 4) (dC (.int 1009))) (dC (.int 69621)))) dNil)) (dC (.int 2147483647))) (gN 4))
    (dSeq (dAsg (dOp rdMod (dCB rdInt (dCons (dOp rdMulV (dVar 4) (dOp rdAddV (dOp rdDiv (dVar 4) (dC (.int 2003))) (dC (.int 40692)))) dNil)) (dC (.int 2147483399))) (gN 4))
    (dRet (dOp rdMod (dCB rdInt (dCons (dOp rdDiv (dVar 4) (dC (.int 16))) dNil)) (dVar 1)))))))))
theorem rd__law_draw (A : Ad) : Rd (r__law_draw A) 5 (sp__law_draw A) := by
  rintro ds S Q X ⟨a, c, B, m, rfl, hH, hm, hm2, h⟩
  unfold r__law_draw
  refine cut_seq (fun ρ T => IsH a c B T ∧ ρ = [some (.ref a), some (.int m), none, none, none]) (fun N hN => ?_) (fun ρ T hM => ?_)
  · obtain ⟨k, n, cells, hca, -, rfl⟩ := hH
    simp only [dSeq, dAsg, dRet, dRetN, dDrop, dRaise, dBreak, dCont, dPar, dAug, dFor, dNext, dSetF, dAugF, dRaiseF, dIfS, dTest, dOp, dVar, dC, dCB, dCons, dNil, dCall, dAndV, dOrV, dNotV, dAndT, dOrT, dNotT, dIf, dTup, dLst, dLstV, dSl, dSlV, rdSlV, oSome, oNone, dNeg, gN, gT, gConsD, gNilD, gSubD, gFldD, dChain, dLc, dBM, isLst, iSeqD, iR1, iR2, iR3, dYes, rdAddV, rdMulV, rdSub, rdDiv, rdMod, rdPow, rdIAdd, rdCmp, rdIsN, isn_non, isn_bl, isn_int, isn_str, isn_ref, isn_tup, isn_rol, isn_obj, rdEqG, rdIx_tup, rdIx_rol, rdIx_put, rdSet, rdLen_tup, rdLen_rol, rdLen_str, rdLen_put, rdInt1, rdInt, rdInt2, rdAppend, rdExt, rdPopAt, rdMaxL, rdMinL, rdListV, rdIsB, isBlV, rdStrI, rdIntS, dFrz, dFld, insOf_put, dMeth, lstOf_rol, lstOf_put, seqOf_tup, seqOf_rol, seqOf_put, frz_tup, frz_rol, frz_int, frz_bl, frz_non, frz_str, frz_obj, startN, wipeD, List.map_cons, List.map_nil, List.length_cons, List.length_nil, Nat.zero_add, Nat.sub_self, Nat.reduceAdd, Nat.reduceSub, List.replicate_succ, List.replicate_zero, List.cons_append, List.nil_append, List.append_nil, List.getElem?_cons_zero, List.getElem?_cons_succ, List.set_cons_zero, List.set_cons_succ, Option.some.injEq, exists_eq_left', DEnds.xd, atI_0, atI_1, atI_2, atI_3, atI_4, atI_5, atI_6, atI_7, ixN_50, ixN_51, ixN_52, ixN_53, ixN_54, ixN_30, ixN_31, ixN_32, put_same, put_put, true_and, and_true, decide_true, decide_false, Bool.not_true, Bool.not_false, Bool.false_eq_true, if_true, if_false, decide_eq_true_eq, Bool.not_eq_true', decide_eq_false_iff_not, mem_one, ex_one, and_self, rdIx, rdLen, put_ne hca]
    exact hN _ _ ⟨⟨k, n + 1, cells, hca, trivial, rfl⟩, rfl⟩
  clear hH
  obtain ⟨hH, rfl⟩ := hM
  refine cut_seq (fun ρ T => IsH a c B T ∧ ρ = [some (.ref a), some (.int m), some (.ref c), none, none]) (fun N hN => ?_) (fun ρ T hM => ?_)
  · have hH0 := hH
    obtain ⟨k, n, cells, hca, -, rfl⟩ := hH
    simp only [dSeq, dAsg, dRet, dRetN, dDrop, dRaise, dBreak, dCont, dPar, dAug, dFor, dNext, dSetF, dAugF, dRaiseF, dIfS, dTest, dOp, dVar, dC, dCB, dCons, dNil, dCall, dAndV, dOrV, dNotV, dAndT, dOrT, dNotT, dIf, dTup, dLst, dLstV, dSl, dSlV, rdSlV, oSome, oNone, dNeg, gN, gT, gConsD, gNilD, gSubD, gFldD, dChain, dLc, dBM, isLst, iSeqD, iR1, iR2, iR3, dYes, rdAddV, rdMulV, rdSub, rdDiv, rdMod, rdPow, rdIAdd, rdCmp, rdIsN, isn_non, isn_bl, isn_int, isn_str, isn_ref, isn_tup, isn_rol, isn_obj, rdEqG, rdIx_tup, rdIx_rol, rdIx_put, rdSet, rdLen_tup, rdLen_rol, rdLen_str, rdLen_put, rdInt1, rdInt, rdInt2, rdAppend, rdExt, rdPopAt, rdMaxL, rdMinL, rdListV, rdIsB, isBlV, rdStrI, rdIntS, dFrz, dFld, insOf_put, dMeth, lstOf_rol, lstOf_put, seqOf_tup, seqOf_rol, seqOf_put, frz_tup, frz_rol, frz_int, frz_bl, frz_non, frz_str, frz_obj, startN, wipeD, List.map_cons, List.map_nil, List.length_cons, List.length_nil, Nat.zero_add, Nat.sub_self, Nat.reduceAdd, Nat.reduceSub, List.replicate_succ, List.replicate_zero, List.cons_append, List.nil_append, List.append_nil, List.getElem?_cons_zero, List.getElem?_cons_succ, List.set_cons_zero, List.set_cons_succ, Option.some.injEq, exists_eq_left', DEnds.xd, atI_0, atI_1, atI_2, atI_3, atI_4, atI_5, atI_6, atI_7, ixN_50, ixN_51, ixN_52, ixN_53, ixN_54, ixN_30, ixN_31, ixN_32, put_same, put_put, true_and, and_true, decide_true, decide_false, Bool.not_true, Bool.not_false, Bool.false_eq_true, if_true, if_false, decide_eq_true_eq, Bool.not_eq_true', decide_eq_false_iff_not, mem_one, ex_one, and_self, rdIx, rdLen, put_ne hca]
    exact hN _ _ ⟨hH0, rfl⟩
  clear hH
  obtain ⟨hH, rfl⟩ := hM
  refine cut_seq (fun ρ T => IsH a c B T ∧ ρ = [some (.ref a), some (.int m), some (.ref c), none, none]) (fun N hN => ?_) (fun ρ T hM => ?_)
  · have hH0 := hH
    obtain ⟨k, n, cells, hca, -, rfl⟩ := hH
    simp only [dSeq, dAsg, dRet, dRetN, dDrop, dRaise, dBreak, dCont, dPar, dAug, dFor, dNext, dSetF, dAugF, dRaiseF, dIfS, dTest, dOp, dVar, dC, dCB, dCons, dNil, dCall, dAndV, dOrV, dNotV, dAndT, dOrT, dNotT, dIf, dTup, dLst, dLstV, dSl, dSlV, rdSlV, oSome, oNone, dNeg, gN, gT, gConsD, gNilD, gSubD, gFldD, dChain, dLc, dBM, isLst, iSeqD, iR1, iR2, iR3, dYes, rdAddV, rdMulV, rdSub, rdDiv, rdMod, rdPow, rdIAdd, rdCmp, rdIsN, isn_non, isn_bl, isn_int, isn_str, isn_ref, isn_tup, isn_rol, isn_obj, rdEqG, rdIx_tup, rdIx_rol, rdIx_put, rdSet, rdLen_tup, rdLen_rol, rdLen_str, rdLen_put, rdInt1, rdInt, rdInt2, rdAppend, rdExt, rdPopAt, rdMaxL, rdMinL, rdListV, rdIsB, isBlV, rdStrI, rdIntS, dFrz, dFld, insOf_put, dMeth, lstOf_rol, lstOf_put, seqOf_tup, seqOf_rol, seqOf_put, frz_tup, frz_rol, frz_int, frz_bl, frz_non, frz_str, frz_obj, startN, wipeD, List.map_cons, List.map_nil, List.length_cons, List.length_nil, Nat.zero_add, Nat.sub_self, Nat.reduceAdd, Nat.reduceSub, List.replicate_succ, List.replicate_zero, List.cons_append, List.nil_append, List.append_nil, List.getElem?_cons_zero, List.getElem?_cons_succ, List.set_cons_zero, List.set_cons_succ, Option.some.injEq, exists_eq_left', DEnds.xd, atI_0, atI_1, atI_2, atI_3, atI_4, atI_5, atI_6, atI_7, ixN_50, ixN_51, ixN_52, ixN_53, ixN_54, ixN_30, ixN_31, ixN_32, put_same, put_put, true_and, and_true, decide_true, decide_false, Bool.not_true, Bool.not_false, Bool.false_eq_true, if_true, if_false, decide_eq_true_eq, Bool.not_eq_true', decide_eq_false_iff_not, mem_one, ex_one, and_self, rdIx, rdLen, put_ne hca]
    cases cells with
    | nil =>
      rw [if_neg (by simp)]
      exact hN _ _ ⟨hH0, rfl⟩
    | cons x xs =>
      rw [if_pos (by simp)]
      simp only [dSeq, dAsg, dRet, dRetN, dDrop, dRaise, dBreak, dCont, dPar, dAug, dFor, dNext, dSetF, dAugF, dRaiseF, dIfS, dTest, dOp, dVar, dC, dCB, dCons, dNil, dCall, dAndV, dOrV, dNotV, dAndT, dOrT, dNotT, dIf, dTup, dLst, dLstV, dSl, dSlV, rdSlV, oSome, oNone, dNeg, gN, gT, gConsD, gNilD, gSubD, gFldD, dChain, dLc, dBM, isLst, iSeqD, iR1, iR2, iR3, dYes, rdAddV, rdMulV, rdSub, rdDiv, rdMod, rdPow, rdIAdd, rdCmp, rdIsN, isn_non, isn_bl, isn_int, isn_str, isn_ref, isn_tup, isn_rol, isn_obj, rdEqG, rdIx_tup, rdIx_rol, rdIx_put, rdSet, rdLen_tup, rdLen_rol, rdLen_str, rdLen_put, rdInt1, rdInt, rdInt2, rdAppend, rdExt, rdPopAt, rdMaxL, rdMinL, rdListV, rdIsB, isBlV, rdStrI, rdIntS, dFrz, dFld, insOf_put, dMeth, lstOf_rol, lstOf_put, seqOf_tup, seqOf_rol, seqOf_put, frz_tup, frz_rol, frz_int, frz_bl, frz_non, frz_str, frz_obj, startN, wipeD, List.map_cons, List.map_nil, List.length_cons, List.length_nil, Nat.zero_add, Nat.sub_self, Nat.reduceAdd, Nat.reduceSub, List.replicate_succ, List.replicate_zero, List.cons_append, List.nil_append, List.append_nil, List.getElem?_cons_zero, List.getElem?_cons_succ, List.set_cons_zero, List.set_cons_succ, Option.some.injEq, exists_eq_left', DEnds.xd, atI_0, atI_1, atI_2, atI_3, atI_4, atI_5, atI_6, atI_7, ixN_50, ixN_51, ixN_52, ixN_53, ixN_54, ixN_30, ixN_31, ixN_32, put_same, put_put, true_and, and_true, decide_true, decide_false, Bool.not_true, Bool.not_false, Bool.false_eq_true, if_true, if_false, decide_eq_true_eq, Bool.not_eq_true', decide_eq_false_iff_not, mem_one, ex_one, and_self, rdIx, rdLen, put_ne hca]
      refine ⟨hm, divp 8000 hm hm2, 0, ixN_lt (by decide) (by omega), .int (x / m), rfl, ?_⟩
      have comm : ∀ ys zs, put (put (put B c (.lst ys)) a (.lst [Dv.int k, Dv.int n, Dv.ref c])) c (.lst zs) = put (put B c (.lst zs)) a (.lst [Dv.int k, Dv.int n, Dv.ref c]) := fun ys zs => by
        rw [put_comm hca.symm, put_put]
      rw [show (Dv.int x :: List.map Dv.int xs).set 0 (Dv.int (x / m)) = List.map Dv.int (x / m :: xs) from rfl, comm]
      have b0 := Int.emod_nonneg x (show m ≠ 0 by omega)
      have b1 := Int.emod_lt_of_pos x hm
      simp only [dSeq, dAsg, dRet, dRetN, dDrop, dRaise, dBreak, dCont, dPar, dAug, dFor, dNext, dSetF, dAugF, dRaiseF, dIfS, dTest, dOp, dVar, dC, dCB, dCons, dNil, dCall, dAndV, dOrV, dNotV, dAndT, dOrT, dNotT, dIf, dTup, dLst, dLstV, dSl, dSlV, rdSlV, oSome, oNone, dNeg, gN, gT, gConsD, gNilD, gSubD, gFldD, dChain, dLc, dBM, isLst, iSeqD, iR1, iR2, iR3, dYes, rdAddV, rdMulV, rdSub, rdDiv, rdMod, rdPow, rdIAdd, rdCmp, rdIsN, isn_non, isn_bl, isn_int, isn_str, isn_ref, isn_tup, isn_rol, isn_obj, rdEqG, rdIx_tup, rdIx_rol, rdIx_put, rdSet, rdLen_tup, rdLen_rol, rdLen_str, rdLen_put, rdInt1, rdInt, rdInt2, rdAppend, rdExt, rdPopAt, rdMaxL, rdMinL, rdListV, rdIsB, isBlV, rdStrI, rdIntS, dFrz, dFld, insOf_put, dMeth, lstOf_rol, lstOf_put, seqOf_tup, seqOf_rol, seqOf_put, frz_tup, frz_rol, frz_int, frz_bl, frz_non, frz_str, frz_obj, startN, wipeD, List.map_cons, List.map_nil, List.length_cons, List.length_nil, Nat.zero_add, Nat.sub_self, Nat.reduceAdd, Nat.reduceSub, List.replicate_succ, List.replicate_zero, List.cons_append, List.nil_append, List.append_nil, List.getElem?_cons_zero, List.getElem?_cons_succ, List.set_cons_zero, List.set_cons_succ, Option.some.injEq, exists_eq_left', DEnds.xd, atI_0, atI_1, atI_2, atI_3, atI_4, atI_5, atI_6, atI_7, ixN_50, ixN_51, ixN_52, ixN_53, ixN_54, ixN_30, ixN_31, ixN_32, put_same, put_put, true_and, and_true, decide_true, decide_false, Bool.not_true, Bool.not_false, Bool.false_eq_true, if_true, if_false, decide_eq_true_eq, Bool.not_eq_true', decide_eq_false_iff_not, mem_one, ex_one, and_self]
      by_cases z : x / m = 0
      · rw [if_pos z, put_ne hca, put_same]
        dsimp only
        refine ⟨trivial, 0, .int (x / m), ⟨by decide, by decide⟩, ?_, rfl, ?_⟩
        · simp [seqIndex?]
        · rw [comm]
          exact h _ _ ⟨k, n, xs, hca, trivial, rfl⟩ b0 b1
      · rw [if_neg z]
        exact h _ _ ⟨k, n, x / m :: xs, hca, trivial, rfl⟩ b0 b1
  clear hH
  obtain ⟨hH, rfl⟩ := hM
  obtain ⟨k, n, cells, hca, -, rfl⟩ := id hH
  simp only [dSeq, dAsg, dRet, dRetN, dDrop, dRaise, dBreak, dCont, dPar, dAug, dFor, dNext, dSetF, dAugF, dRaiseF, dIfS, dTest, dOp, dVar, dC, dCB, dCons, dNil, dCall, dAndV, dOrV, dNotV, dAndT, dOrT, dNotT, dIf, dTup, dLst, dLstV, dSl, dSlV, rdSlV, oSome, oNone, dNeg, gN, gT, gConsD, gNilD, gSubD, gFldD, dChain, dLc, dBM, isLst, iSeqD, iR1, iR2, iR3, dYes, rdAddV, rdMulV, rdSub, rdDiv, rdMod, rdPow, rdIAdd, rdCmp, rdIsN, isn_non, isn_bl, isn_int, isn_str, isn_ref, isn_tup, isn_rol, isn_obj, rdEqG, rdIx_tup, rdIx_rol, rdIx_put, rdSet, rdLen_tup, rdLen_rol, rdLen_str, rdLen_put, rdInt1, rdInt, rdInt2, rdAppend, rdExt, rdPopAt, rdMaxL, rdMinL, rdListV, rdIsB, isBlV, rdStrI, rdIntS, dFrz, dFld, insOf_put, dMeth, lstOf_rol, lstOf_put, seqOf_tup, seqOf_rol, seqOf_put, frz_tup, frz_rol, frz_int, frz_bl, frz_non, frz_str, frz_obj, startN, wipeD, List.map_cons, List.map_nil, List.length_cons, List.length_nil, Nat.zero_add, Nat.sub_self, Nat.reduceAdd, Nat.reduceSub, List.replicate_succ, List.replicate_zero, List.cons_append, List.nil_append, List.append_nil, List.getElem?_cons_zero, List.getElem?_cons_succ, List.set_cons_zero, List.set_cons_succ, Option.some.injEq, exists_eq_left', DEnds.xd, atI_0, atI_1, atI_2, atI_3, atI_4, atI_5, atI_6, atI_7, ixN_50, ixN_51, ixN_52, ixN_53, ixN_54, ixN_30, ixN_31, ixN_32, put_same, put_put, true_and, and_true, decide_true, decide_false, Bool.not_true, Bool.not_false, Bool.false_eq_true, if_true, if_false, decide_eq_true_eq, Bool.not_eq_true', decide_eq_false_iff_not, mem_one, ex_one, and_self, rdIx, rdLen, put_ne hca]
  have b1 : ∀ x : Int, 0 ≤ x % 2147483647 ∧ x % 2147483647 < 2147483647 := fun x => by omega
  exact ⟨mulok_l (by decide) (by decide), mulok_r (by decide) (by decide), by decide, divp 64 (by decide) (by decide), mul_small (b1 _).1 (b1 _).2, by decide, divp 64 (by decide) (by decide), mul_small (b1 _).1 (b1 _).2, by decide, divp 64 (by decide) (by decide), hm, h _ _ hH (Int.emod_nonneg _ (by omega)) (Int.emod_lt_of_pos _ hm)⟩
section
variable {a c p : Addr} {B S T : Sto} {m : MO}
theorem IsH.off (h : IsH a c B S) (ea : T a = S a) (ec : T c = S c) : IsH a c T T := by
  obtain ⟨k, n, cells, hca, hi, rfl⟩ := h
  refine ⟨k, n, cells, hca, hi, ?_⟩
  rw [put_same] at ea
  rw [put_ne hca, put_same] at ec
  rw [put_self ec, put_self ea]
theorem IsH.self (h : IsH a c B S) : IsH a c S S := h.off rfl rfl
theorem IsH.lsts (h : IsH a c B S) : (∃ xs, S a = some (.lst xs)) ∧ ∃ xs, S c = some (.lst xs) := by
  obtain ⟨k, n, cells, hca, hi, rfl⟩ := h
  exact ⟨⟨_, put_same⟩, _, by rw [put_ne hca, put_same]⟩
theorem IsH.some_a (h : IsH a c B S) : S a ≠ none ∧ S c ≠ none := by
  obtain ⟨⟨x, e⟩, y, f⟩ := h.lsts
  exact ⟨by rw [e]; simp, by rw [f]; simp⟩
theorem IsH.trans (h : IsH a c B S) (g : IsH a c S T) : IsH a c B T := by
  obtain ⟨k, n, cells, hca, hi, rfl⟩ := h
  obtain ⟨k2, n2, cells2, hca2, hi2, rfl⟩ := g
  refine ⟨k2, n2, cells2, hca2, hi2, ?_⟩
  funext b
  unfold put
  by_cases h1 : b = a
  · simp [h1]
  · by_cases h2 : b = c
    · simp [h1, h2]
    · simp [h1, h2]
theorem IsH.putN (h : IsH a c B S) (hp : S p = none) : IsH a c (put S p m) (put S p m) := by
  have h1 : a ≠ p := fun z => h.some_a.1 (by rw [z]; exact hp)
  have h2 : c ≠ p := fun z => h.some_a.2 (by rw [z]; exact hp)
  exact h.off (put_ne h1) (put_ne h2)
theorem IsH.subH (h : IsH a c S S) (s : VD.Sub S T) : IsH a c T T := by
  obtain ⟨⟨xs, h1⟩, ys, h2⟩ := h.lsts
  exact h.off ((s _ _ h1).trans h1.symm) ((s _ _ h2).trans h2.symm)
/-- a written object at p, as the hand is led on -/
theorem IsH.keep (h : IsH a c S T) (hp : p ≠ a) (hc : p ≠ c) : T p = S p := h.at_ hp hc
end
theorem ask_ix {A : Ad} {a c : Addr} {B S : Sto} {xs : List Dv} {Q : QD} {X : XD} (hH : IsH a c B S) (q : ∀ (r : Nat) d S', IsH a c B S' → xs[r]? = some d → Q d S') (hm : 0 < xs.length := by simp) (hm2 : (xs.length : Int) < 2 ^ 64 := by simp) :
    sp__law_draw A [.ref a, .int xs.length] S (fun y S1 => rdIx (.rol xs) y S1 Q) X := ask hH (fun r S' h h0 h1 => by
  rw [rdIx_rol]
  obtain ⟨d, hd⟩ : ∃ d, xs[r.toNat]? = some d := ⟨_, List.getElem?_eq_getElem (by omega : r.toNat < xs.length)⟩
  exact ⟨d, by rw [atI_nn h0]; exact hd, q r.toNat d S' h hd⟩) (by omega) hm2
theorem ask_mem {A : Ad} {a c : Addr} {B S : Sto} {xs : List Dv} {m : Int} {Q : QD} {X : XD} (hH : IsH a c B S) (q : ∀ d S', IsH a c B S' → d ∈ xs → Q d S') (hm : m = ((xs.length : Nat) : Int) := by simp) (hm1 : 0 < xs.length := by simp) (hm2 : (xs.length : Int) < 2 ^ 64 := by simp) :
    sp__law_draw A [.ref a, .int m] S (fun y S1 => rdIx (.rol xs) y S1 Q) X := by
  subst hm
  exact ask_ix hH (fun r d S' h e => q d S' h (List.mem_of_getElem? e)) hm1 hm2
/-- a thing nested deep -/
def deepD : Nat → Dv
  | 0 => .rol [.non]
  | n + 1 => .rol [deepD n]
def sp__law_deep (A : Ad) : SpD := fun ds S Q _ => ds = [] ∧ Q (deepD 35) S
theorem len__law_deep (A : Ad) : ∀ ds S Q X, sp__law_deep A ds S Q X → ds.length = 0 := by rintro _ _ _ _ ⟨rfl, _⟩; rfl
def r__law_deep (A : Ad) : DS := (dSeq (dAsg (dLstV (dCons (dC .non) dNil)) (gN 0))
    (dSeq (dFor (iR1 (dCons (dC (.int 35)) dNil)) (gN 1) (dAsg (dLstV (dCons (dVar 0) dNil)) (gN 0)))
    (dRet (dVar 0))))
theorem rd__law_deep (A : Ad) : Rd (r__law_deep A) 2 (sp__law_deep A) := by
  rintro ds S Q X ⟨rfl, h⟩
  unfold r__law_deep
  simp only [dSeq, dAsg, dRet, dRetN, dDrop, dRaise, dBreak, dCont, dPar, dAug, dFor, dNext, dSetF, dAugF, dRaiseF, dIfS, dTest, dOp, dVar, dC, dCB, dCons, dNil, dCall, dAndV, dOrV, dNotV, dAndT, dOrT, dNotT, dIf, dTup, dLst, dLstV, dSl, dSlV, rdSlV, oSome, oNone, dNeg, gN, gT, gConsD, gNilD, gSubD, gFldD, dChain, dLc, dBM, isLst, iSeqD, iR1, iR2, iR3, dYes, rdAddV, rdMulV, rdSub, rdDiv, rdMod, rdPow, rdIAdd, rdCmp, rdIsN, isn_non, isn_bl, isn_int, isn_str, isn_ref, isn_tup, isn_rol, isn_obj, rdEqG, rdIx_tup, rdIx_rol, rdIx_put, rdSet, rdLen_tup, rdLen_rol, rdLen_str, rdLen_put, rdInt1, rdInt, rdInt2, rdAppend, rdExt, rdPopAt, rdMaxL, rdMinL, rdListV, rdIsB, isBlV, rdStrI, rdIntS, dFrz, dFld, insOf_put, dMeth, lstOf_rol, lstOf_put, seqOf_tup, seqOf_rol, seqOf_put, frz_tup, frz_rol, frz_int, frz_bl, frz_non, frz_str, frz_obj, startN, wipeD, List.map_cons, List.map_nil, List.length_cons, List.length_nil, Nat.zero_add, Nat.sub_self, Nat.reduceAdd, Nat.reduceSub, List.replicate_succ, List.replicate_zero, List.cons_append, List.nil_append, List.append_nil, List.getElem?_cons_zero, List.getElem?_cons_succ, List.set_cons_zero, List.set_cons_succ, Option.some.injEq, exists_eq_left', DEnds.xd, atI_0, atI_1, atI_2, atI_3, atI_4, atI_5, atI_6, atI_7, ixN_50, ixN_51, ixN_52, ixN_53, ixN_54, ixN_30, ixN_31, ixN_32, put_same, put_put, true_and, and_true, decide_true, decide_false, Bool.not_true, Bool.not_false, Bool.false_eq_true, if_true, if_false, decide_eq_true_eq, Bool.not_eq_true', decide_eq_false_iff_not, mem_one, ex_one, and_self]
  refine ⟨slK, for_go (fun j ρ T => T = S ∧ ∃ y, ρ = [some (deepD j), y]) ⟨rfl, _, rfl⟩ (fun _ _ _ _ _ => trivial) (fun j x ρ T hx hw => ?_) fun ρ T hw => ?_⟩
  · obtain ⟨rfl, y, rfl⟩ := hw
    simp only [dSeq, dAsg, dRet, dRetN, dDrop, dRaise, dBreak, dCont, dPar, dAug, dFor, dNext, dSetF, dAugF, dRaiseF, dIfS, dTest, dOp, dVar, dC, dCB, dCons, dNil, dCall, dAndV, dOrV, dNotV, dAndT, dOrT, dNotT, dIf, dTup, dLst, dLstV, dSl, dSlV, rdSlV, oSome, oNone, dNeg, gN, gT, gConsD, gNilD, gSubD, gFldD, dChain, dLc, dBM, isLst, iSeqD, iR1, iR2, iR3, dYes, rdAddV, rdMulV, rdSub, rdDiv, rdMod, rdPow, rdIAdd, rdCmp, rdIsN, isn_non, isn_bl, isn_int, isn_str, isn_ref, isn_tup, isn_rol, isn_obj, rdEqG, rdIx_tup, rdIx_rol, rdIx_put, rdSet, rdLen_tup, rdLen_rol, rdLen_str, rdLen_put, rdInt1, rdInt, rdInt2, rdAppend, rdExt, rdPopAt, rdMaxL, rdMinL, rdListV, rdIsB, isBlV, rdStrI, rdIntS, dFrz, dFld, insOf_put, dMeth, lstOf_rol, lstOf_put, seqOf_tup, seqOf_rol, seqOf_put, frz_tup, frz_rol, frz_int, frz_bl, frz_non, frz_str, frz_obj, startN, wipeD, List.map_cons, List.map_nil, List.length_cons, List.length_nil, Nat.zero_add, Nat.sub_self, Nat.reduceAdd, Nat.reduceSub, List.replicate_succ, List.replicate_zero, List.cons_append, List.nil_append, List.append_nil, List.getElem?_cons_zero, List.getElem?_cons_succ, List.set_cons_zero, List.set_cons_succ, Option.some.injEq, exists_eq_left', DEnds.xd, atI_0, atI_1, atI_2, atI_3, atI_4, atI_5, atI_6, atI_7, ixN_50, ixN_51, ixN_52, ixN_53, ixN_54, ixN_30, ixN_31, ixN_32, put_same, put_put, true_and, and_true, decide_true, decide_false, Bool.not_true, Bool.not_false, Bool.false_eq_true, if_true, if_false, decide_eq_true_eq, Bool.not_eq_true', decide_eq_false_iff_not, mem_one, ex_one, and_self]
    exact ⟨slK, _, rfl⟩
  · obtain ⟨rfl, y, rfl⟩ := hw
    simp only [dSeq, dAsg, dRet, dRetN, dDrop, dRaise, dBreak, dCont, dPar, dAug, dFor, dNext, dSetF, dAugF, dRaiseF, dIfS, dTest, dOp, dVar, dC, dCB, dCons, dNil, dCall, dAndV, dOrV, dNotV, dAndT, dOrT, dNotT, dIf, dTup, dLst, dLstV, dSl, dSlV, rdSlV, oSome, oNone, dNeg, gN, gT, gConsD, gNilD, gSubD, gFldD, dChain, dLc, dBM, isLst, iSeqD, iR1, iR2, iR3, dYes, rdAddV, rdMulV, rdSub, rdDiv, rdMod, rdPow, rdIAdd, rdCmp, rdIsN, isn_non, isn_bl, isn_int, isn_str, isn_ref, isn_tup, isn_rol, isn_obj, rdEqG, rdIx_tup, rdIx_rol, rdIx_put, rdSet, rdLen_tup, rdLen_rol, rdLen_str, rdLen_put, rdInt1, rdInt, rdInt2, rdAppend, rdExt, rdPopAt, rdMaxL, rdMinL, rdListV, rdIsB, isBlV, rdStrI, rdIntS, dFrz, dFld, insOf_put, dMeth, lstOf_rol, lstOf_put, seqOf_tup, seqOf_rol, seqOf_put, frz_tup, frz_rol, frz_int, frz_bl, frz_non, frz_str, frz_obj, startN, wipeD, List.map_cons, List.map_nil, List.length_cons, List.length_nil, Nat.zero_add, Nat.sub_self, Nat.reduceAdd, Nat.reduceSub, List.replicate_succ, List.replicate_zero, List.cons_append, List.nil_append, List.append_nil, List.getElem?_cons_zero, List.getElem?_cons_succ, List.set_cons_zero, List.set_cons_succ, Option.some.injEq, exists_eq_left', DEnds.xd, atI_0, atI_1, atI_2, atI_3, atI_4, atI_5, atI_6, atI_7, ixN_50, ixN_51, ixN_52, ixN_53, ixN_54, ixN_30, ixN_31, ixN_32, put_same, put_put, true_and, and_true, decide_true, decide_false, Bool.not_true, Bool.not_false, Bool.false_eq_true, if_true, if_false, decide_eq_true_eq, Bool.not_eq_true', decide_eq_false_iff_not, mem_one, ex_one, and_self]
    exact h
end Lw

namespace Lw
open PySem PySem.Spec PyProof.Rows L2 VD
/-! ### equality of data without truth values -/
def clean : Nat → Dv → Prop
  | 0, _ => False
  | n + 1, d => match d with
    | .non => True
    | .int _ => True
    | .str x => PyData.strOk x = true
    | .tup xs => ∀ x ∈ xs, clean n x
    | .rol xs => ∀ x ∈ xs, clean n x
    | _ => False
theorem clean_list {n : Nat} (ih : ∀ d, clean n d → isD d = true ∧ PyData.canLay0 (py d) = true ∧ PyData.depth (py d) ≤ n) : ∀ xs : List Dv, (∀ x ∈ xs, clean n x) → isDL xs = true ∧ PyData.canLayAll0 (pyL xs) = true ∧ PyData.depthAll (pyL xs) ≤ n
  | [], _ => ⟨rfl, rfl, Nat.zero_le _⟩
  | x :: xs, h => by
    obtain ⟨a1, a2, a3⟩ := ih x (h x (by simp))
    obtain ⟨b1, b2, b3⟩ := clean_list ih xs fun y hy => h y (by simp [hy])
    refine ⟨by simp [isDL, a1, b1], by simp [pyL, PyData.canLayAll0, a2, b2], ?_⟩
    simp only [pyL, PyData.depthAll]
    omega
theorem clean_d : ∀ (n : Nat) (d : Dv), clean n d → isD d = true ∧ PyData.canLay0 (py d) = true ∧ PyData.depth (py d) ≤ n
  | 0, _, h => h.elim
  | n + 1, d, h => by
    cases d with
    | non => exact ⟨rfl, rfl, by simp [py, PyData.depth]⟩
    | int => exact ⟨rfl, rfl, by simp [py, PyData.depth]⟩
    | str x => exact ⟨rfl, by unfold clean at h; simpa [py, PyData.canLay0] using h, by simp [py, PyData.depth]⟩
    | tup xs =>
      obtain ⟨b1, b2, b3⟩ := clean_list (clean_d n) xs h
      exact ⟨by simpa [isD] using b1, by simpa [py, PyData.canLay0] using b2, by simp only [py, PyData.depth]; omega⟩
    | rol xs =>
      obtain ⟨b1, b2, b3⟩ := clean_list (clean_d n) xs h
      exact ⟨by simpa [isD] using b1, by simpa [py, PyData.canLay0] using b2, by simp only [py, PyData.depth]; omega⟩
    | _ => exact h.elim
theorem shp_clean {n : Nat} {d : Dv} (h : clean n d) (hn : n ≤ 64 := by decide) : shp d = true := by
  obtain ⟨a1, a2, a3⟩ := clean_d n d h
  unfold shp SeqAt.shaped
  rw [a1, a2]
  simp
  omega
theorem eqv_list {n m : Nat} (ih : ∀ d e, clean n d → clean m e → (eqvD d e = true ↔ d = e)) : ∀ xs ys : List Dv, (∀ x ∈ xs, clean n x) → (∀ y ∈ ys, clean m y) → (eqvL xs ys = true ↔ xs = ys)
  | [], [], _, _ => by simp [eqvL, pyL, PyData.eqvAll]
  | [], _ :: _, _, _ => by simp [eqvL, pyL, PyData.eqvAll]
  | _ :: _, [], _, _ => by simp [eqvL, pyL, PyData.eqvAll]
  | x :: xs, y :: ys, h1, h2 => by
    have a := ih x y (h1 x (by simp)) (h2 y (by simp))
    have b := eqv_list ih xs ys (fun z hz => h1 z (by simp [hz])) fun z hz => h2 z (by simp [hz])
    unfold eqvL at b ⊢
    unfold eqvD at a
    simp only [pyL, PyData.eqvAll, Bool.and_eq_true, a, b, List.cons.injEq]
theorem eqv_clean : ∀ (n m : Nat) (d e : Dv), clean n d → clean m e → (eqvD d e = true ↔ d = e)
  | 0, _, _, _, h, _ => h.elim
  | _ + 1, 0, _, _, _, h => h.elim
  | n + 1, m + 1, d, e, h1, h2 => by
    have L := fun xs ys => eqv_list (eqv_clean n m) xs ys
    unfold eqvL at L
    cases d <;> first
      | exact h1.elim
      | (cases e <;> first
        | exact h2.elim
        | (rename_i xs ys; simp only [eqvD, py, PyData.eqv, Dv.tup.injEq]; exact L xs ys h1 h2)
        | (rename_i xs ys; simp only [eqvD, py, PyData.eqv, Dv.rol.injEq]; exact L xs ys h1 h2)
        | simp [eqvD, py, PyData.eqv])
theorem eqv_same {n : Nat} {d : Dv} (h : clean n d) : eqvD d d = true := (eqv_clean n n d d h h).mpr rfl
theorem eqv_ne {n : Nat} {d e : Dv} (h : clean n d) (h2 : clean n e) (ne : d ≠ e) : eqvD d e = false := by
  cases z : eqvD d e with
  | false => rfl
  | true => exact absurd ((eqv_clean n n d e h h2).mp z) ne
theorem eqv_dec {n : Nat} {d e : Dv} {p : Prop} [Decidable p] (h : clean n d) (h2 : clean n e) (hp : d = e ↔ p) : eqvD d e = decide p := by
  rw [Bool.eq_iff_iff, eqv_clean n n d e h h2, hp, decide_eq_true_iff]
theorem clean_ints {n : Nat} {ns : List Int} : clean (n + 2) (.tup (List.map Dv.int ns)) := by
  intro x hx
  obtain ⟨i, _, rfl⟩ := List.mem_map.mp hx
  trivial
theorem clean_intsL {n : Nat} {ns : List Int} : clean (n + 2) (.rol (List.map Dv.int ns)) := by
  intro x hx
  obtain ⟨i, _, rfl⟩ := List.mem_map.mp hx
  trivial
theorem clean_tup0 {n : Nat} : clean (n + 1) (.tup []) := by intro x hx; cases hx
theorem clean_cons {n : Nat} {d : Dv} {xs : List Dv} (h : clean n d) (h2 : clean (n + 1) (.tup xs)) : clean (n + 1) (.tup (d :: xs)) := by
  intro x hx
  rcases List.mem_cons.mp hx with rfl | hx
  · exact h
  · exact h2 x hx
theorem ints_inj {xs ys : List Int} : List.map Dv.int xs = List.map Dv.int ys ↔ xs = ys := by
  constructor
  · intro h
    have : (List.map Dv.int xs).map (fun d => match d with | .int i => i | _ => 0) = (List.map Dv.int ys).map (fun d => match d with | .int i => i | _ => 0) := by rw [h]
    simpa [List.map_map, Function.comp_def] using this
  · rintro rfl; rfl
/-- == of data of these kinds that are not lists in the store -/
theorem eqG_of {f : Bool → Bool} {n : Nat} {x y d e : Dv} {S : Sto} {Q : QD} {p : Prop} [Decidable p] (hx : valOf x S = d) (hy : valOf y S = e) (h : clean n d) (h2 : clean n e) (hp : d = e ↔ p) (q : Q (.bl (f (decide p))) S) (hn : n ≤ 64 := by decide) : rdEqG f x y S Q := by
  unfold rdEqG
  split
  · have e1 : (p ↔ _) := hp.symm
    simp only [VD.valOf] at hx hy
    subst hx; subst hy
    simp only [Dv.int.injEq] at hp
    rw [show decide _ = decide p from decide_eq_decide.mpr hp]; exact q
  · simp only [VD.valOf] at hx hy
    subst hx
    cases n with
    | zero => exact h.elim
    | succ n => exact h.elim
  · simp only [VD.valOf] at hx hy
    subst hx; subst hy
    simp only [Dv.str.injEq] at hp
    rw [show decide _ = decide p from decide_eq_decide.mpr hp]; exact q
  · rw [hx, hy, eqv_dec h h2 hp]
    exact ⟨⟨shp_clean h hn, shp_clean h2 hn⟩, q⟩
theorem atI_ints {xs : List Int} {b : Nat} {v : Int} (hv : xs[b]? = some v) : atI (List.map Dv.int xs) (b : Int) = some (.int v) := by
  rw [atI_nn (by omega), Int.toNat_natCast, List.getElem?_map, hv]; rfl
theorem len_law (A : Ad) : ∀ ds S Q X, spLaw ds S Q X → ds.length = 1 := by rintro _ _ _ _ ⟨_, rfl, _⟩; rfl
end Lw

--CLS Disk
namespace Lw
open PySem PySem.Spec PyProof.Rows L2 VD
def sp_check_within (A : Ad) : SpD := fun ds S Q X => ∃ d a b, ds = [d, .int a, .int b] ∧ known A S d ∧ if within d a b = true then Q .non S else X (.ref A.NoNumber) none S
theorem len_check_within (A : Ad) : ∀ ds S Q X, sp_check_within A ds S Q X → ds.length = 3 := by rintro _ _ _ _ ⟨_, _, _, rfl, _⟩; rfl
def r_check_within (A : Ad) : DS := (dIfS (dNotT (dTest (dCall (sp_is_within A) (dCons (dVar 0) (dCons (dVar 1) (dCons (dVar 2) dNil)))))) (dRaise (.ref A.NoNumber)) dNext)
theorem rd_check_within (A : Ad) : Rd (r_check_within A) 3 (sp_check_within A) := by
  rintro ds S Q X ⟨d, a, b, rfl, hk, h⟩
  unfold r_check_within
  simp only [dSeq, dAsg, dRet, dRetN, dDrop, dRaise, dBreak, dCont, dPar, dAug, dFor, dNext, dSetF, dAugF, dRaiseF, dIfS, dTest, dOp, dVar, dC, dCB, dCons, dNil, dCall, dAndV, dOrV, dNotV, dAndT, dOrT, dNotT, dIf, dTup, dLst, dLstV, dSl, dSlV, rdSlV, oSome, oNone, dNeg, gN, gT, gConsD, gNilD, gSubD, gFldD, dChain, dLc, dBM, isLst, iSeqD, iR1, iR2, iR3, dYes, rdAddV, rdMulV, rdSub, rdDiv, rdMod, rdPow, rdIAdd, rdCmp, rdIsN, isn_non, isn_bl, isn_int, isn_str, isn_ref, isn_tup, isn_rol, isn_obj, rdEqG, rdIx_tup, rdIx_rol, rdIx_put, rdSet, rdLen_tup, rdLen_rol, rdLen_str, rdLen_put, rdInt1, rdInt, rdInt2, rdAppend, rdExt, rdPopAt, rdMaxL, rdMinL, rdListV, rdIsB, isBlV, rdStrI, rdIntS, dFrz, dFld, insOf_put, dMeth, lstOf_rol, lstOf_put, seqOf_tup, seqOf_rol, seqOf_put, frz_tup, frz_rol, frz_int, frz_bl, frz_non, frz_str, frz_obj, startN, wipeD, List.map_cons, List.map_nil, List.length_cons, List.length_nil, Nat.zero_add, Nat.sub_self, Nat.reduceAdd, Nat.reduceSub, List.replicate_succ, List.replicate_zero, List.cons_append, List.nil_append, List.append_nil, List.getElem?_cons_zero, List.getElem?_cons_succ, List.set_cons_zero, List.set_cons_succ, Option.some.injEq, exists_eq_left', DEnds.xd, atI_0, atI_1, atI_2, atI_3, atI_4, atI_5, atI_6, atI_7, ixN_50, ixN_51, ixN_52, ixN_53, ixN_54, ixN_30, ixN_31, ixN_32, put_same, put_put, true_and, and_true, decide_true, decide_false, Bool.not_true, Bool.not_false, Bool.false_eq_true, if_true, if_false, decide_eq_true_eq, Bool.not_eq_true', decide_eq_false_iff_not, mem_one, ex_one, and_self, i_Disk, l_Disk, h_Disk_write, h_Disk_sync, h_Disk_blocks, h_Disk_synced, h_Disk_cut, h_Disk_drop, h_Disk_copy, g_Disk_rows, p_Disk_rows, k_Disk_rows, g_Disk_lasting, p_Disk_lasting, k_Disk_lasting]
  refine ⟨d, a, b, rfl, hk, ?_⟩
  cases e : within d a b with
  | true => rw [if_pos e] at h; exact h
  | false => rw [if_neg (by rw [e]; decide)] at h; exact h
/-! ### where a disk stands -/
def tb (r : List Int) : Dv := .tup (r.map Dv.int)
structure IsDk (A : Ad) (S : Sto) (x r : Addr) (rows : List (List Int)) (l : Nat) : Prop where
  obj : ∃ dx, S x = some (.ins A.Disk dx (o_Disk (.ref r) (.int (l : Nat))))
  lst : S r = some (.lst (rows.map tb))
  le : l ≤ rows.length
  few : rows.length ≤ 1000
section
variable {A : Ad} {S T : Sto} {x r : Addr} {rows : List (List Int)} {l : Nat}
theorem IsDk.ne (h : IsDk A S x r rows l) : r ≠ x := fun z => by
  obtain ⟨dx, e⟩ := h.obj
  have := h.lst
  rw [z, e] at this
  cases this
theorem IsDk.frame (h : IsDk A S x r rows l) (e1 : T x = S x) (e2 : T r = S r) : IsDk A T x r rows l := ⟨by rw [e1]; exact h.obj, by rw [e2]; exact h.lst, h.le, h.few⟩
/-- all but these stands as it stood -/
def Off (S T : Sto) (ps : List Addr) : Prop := ∀ p, S p ≠ none → p ∉ ps → T p = S p
theorem Off.refl {ps : List Addr} : Off S S ps := fun _ _ _ => rfl
theorem Off.trans {U : Sto} {ps : List Addr} (h : Off S T ps) (k : Off T U ps) : Off S U ps := fun p e n => by
  rw [k p (by rw [h p e n]; exact e) n, h p e n]
theorem Off.wide {ps qs : List Addr} (h : Off S T ps) (k : ∀ p ∈ ps, p ∈ qs) : Off S T qs := fun p e n => h p e fun z => n (k p z)
end
def sp_Disk_init (A : Ad) : SpD := fun ds S Q _ => ∃ x dx, ds = [.ref x] ∧ S x = some (.ins A.Disk dx []) ∧ ∀ r, S r = none → Q .non (put (put S r (.lst [])) x (.ins A.Disk dx (o_Disk (.ref r) (.int 0))))
theorem len_Disk_init (A : Ad) : ∀ ds S Q X, sp_Disk_init A ds S Q X → ds.length = 1 := by rintro _ _ _ _ ⟨_, _, rfl, _⟩; rfl
def r_Disk_init (A : Ad) : DS := (dSeq (dSetF [A.Disk] (Str.ofString "rows") (dVar 0) (dLst dNil))
    (dSetF [A.Disk] (Str.ofString "lasting") (dVar 0) (dC (.int 0))))
theorem rd_Disk_init (A : Ad) : Rd (r_Disk_init A) 1 (sp_Disk_init A) := by
  rintro ds S Q X ⟨x, dx, rfl, hx, h⟩
  unfold r_Disk_init
  simp only [dSeq, dAsg, dRet, dRetN, dDrop, dRaise, dBreak, dCont, dPar, dAug, dFor, dNext, dSetF, dAugF, dRaiseF, dIfS, dTest, dOp, dVar, dC, dCB, dCons, dNil, dCall, dAndV, dOrV, dNotV, dAndT, dOrT, dNotT, dIf, dTup, dLst, dLstV, dSl, dSlV, rdSlV, oSome, oNone, dNeg, gN, gT, gConsD, gNilD, gSubD, gFldD, dChain, dLc, dBM, isLst, iSeqD, iR1, iR2, iR3, dYes, rdAddV, rdMulV, rdSub, rdDiv, rdMod, rdPow, rdIAdd, rdCmp, rdIsN, isn_non, isn_bl, isn_int, isn_str, isn_ref, isn_tup, isn_rol, isn_obj, rdEqG, rdIx_tup, rdIx_rol, rdIx_put, rdSet, rdLen_tup, rdLen_rol, rdLen_str, rdLen_put, rdInt1, rdInt, rdInt2, rdAppend, rdExt, rdPopAt, rdMaxL, rdMinL, rdListV, rdIsB, isBlV, rdStrI, rdIntS, dFrz, dFld, insOf_put, dMeth, lstOf_rol, lstOf_put, seqOf_tup, seqOf_rol, seqOf_put, frz_tup, frz_rol, frz_int, frz_bl, frz_non, frz_str, frz_obj, startN, wipeD, List.map_cons, List.map_nil, List.length_cons, List.length_nil, Nat.zero_add, Nat.sub_self, Nat.reduceAdd, Nat.reduceSub, List.replicate_succ, List.replicate_zero, List.cons_append, List.nil_append, List.append_nil, List.getElem?_cons_zero, List.getElem?_cons_succ, List.set_cons_zero, List.set_cons_succ, Option.some.injEq, exists_eq_left', DEnds.xd, atI_0, atI_1, atI_2, atI_3, atI_4, atI_5, atI_6, atI_7, ixN_50, ixN_51, ixN_52, ixN_53, ixN_54, ixN_30, ixN_31, ixN_32, put_same, put_put, true_and, and_true, decide_true, decide_false, Bool.not_true, Bool.not_false, Bool.false_eq_true, if_true, if_false, decide_eq_true_eq, Bool.not_eq_true', decide_eq_false_iff_not, mem_one, ex_one, and_self, i_Disk, l_Disk, h_Disk_write, h_Disk_sync, h_Disk_blocks, h_Disk_synced, h_Disk_cut, h_Disk_drop, h_Disk_copy, g_Disk_rows, p_Disk_rows, k_Disk_rows, g_Disk_lasting, p_Disk_lasting, k_Disk_lasting]
  refine ⟨by decide, fun r hr => ?_⟩
  have ne : r ≠ x := fun z => by rw [z, hx] at hr; cases hr
  rw [put_ne ne.symm, hx]
  simp only [dSeq, dAsg, dRet, dRetN, dDrop, dRaise, dBreak, dCont, dPar, dAug, dFor, dNext, dSetF, dAugF, dRaiseF, dIfS, dTest, dOp, dVar, dC, dCB, dCons, dNil, dCall, dAndV, dOrV, dNotV, dAndT, dOrT, dNotT, dIf, dTup, dLst, dLstV, dSl, dSlV, rdSlV, oSome, oNone, dNeg, gN, gT, gConsD, gNilD, gSubD, gFldD, dChain, dLc, dBM, isLst, iSeqD, iR1, iR2, iR3, dYes, rdAddV, rdMulV, rdSub, rdDiv, rdMod, rdPow, rdIAdd, rdCmp, rdIsN, isn_non, isn_bl, isn_int, isn_str, isn_ref, isn_tup, isn_rol, isn_obj, rdEqG, rdIx_tup, rdIx_rol, rdIx_put, rdSet, rdLen_tup, rdLen_rol, rdLen_str, rdLen_put, rdInt1, rdInt, rdInt2, rdAppend, rdExt, rdPopAt, rdMaxL, rdMinL, rdListV, rdIsB, isBlV, rdStrI, rdIntS, dFrz, dFld, insOf_put, dMeth, lstOf_rol, lstOf_put, seqOf_tup, seqOf_rol, seqOf_put, frz_tup, frz_rol, frz_int, frz_bl, frz_non, frz_str, frz_obj, startN, wipeD, List.map_cons, List.map_nil, List.length_cons, List.length_nil, Nat.zero_add, Nat.sub_self, Nat.reduceAdd, Nat.reduceSub, List.replicate_succ, List.replicate_zero, List.cons_append, List.nil_append, List.append_nil, List.getElem?_cons_zero, List.getElem?_cons_succ, List.set_cons_zero, List.set_cons_succ, Option.some.injEq, exists_eq_left', DEnds.xd, atI_0, atI_1, atI_2, atI_3, atI_4, atI_5, atI_6, atI_7, ixN_50, ixN_51, ixN_52, ixN_53, ixN_54, ixN_30, ixN_31, ixN_32, put_same, put_put, true_and, and_true, decide_true, decide_false, Bool.not_true, Bool.not_false, Bool.false_eq_true, if_true, if_false, decide_eq_true_eq, Bool.not_eq_true', decide_eq_false_iff_not, mem_one, ex_one, and_self, i_Disk, l_Disk, h_Disk_write, h_Disk_sync, h_Disk_blocks, h_Disk_synced, h_Disk_cut, h_Disk_drop, h_Disk_copy, g_Disk_rows, p_Disk_rows, k_Disk_rows, g_Disk_lasting, p_Disk_lasting, k_Disk_lasting, n_Disk_rows, n_Disk_lasting]
  refine ⟨by decide, by decide, h r hr⟩
def sp_Disk (A : Ad) : SpD := fun ds S Q X => ds = [] ∧ ∀ x r T, IsDk A T x r [] 0 → S x = none → S r = none → VD.Sub S T → Q (.ref x) T
theorem mk_Disk (A : Ad) : ∀ vs S Q X, sp_Disk A vs S Q X → ∀ x dx, S x = none → S dx = none → dx ≠ x → sp_Disk_init A (.ref x :: vs) (put S x (.ins A.Disk dx [])) (fun v S2 => v = .non ∧ Q (.ref x) S2) X := by
  rintro _ S Q X ⟨rfl, h⟩ x dx hx hd ne
  refine ⟨x, dx, rfl, put_same, fun r hr => ⟨rfl, ?_⟩⟩
  have nx : r ≠ x := fun z => by rw [z, put_same] at hr; cases hr
  rw [put_ne nx] at hr
  refine h x r _ ⟨⟨dx, put_same⟩, by rw [put_ne nx, put_same]; rfl, Nat.le_refl _, Nat.zero_le _⟩ hx hr fun p m e => ?_
  have n1 : p ≠ x := fun z => by rw [z, hx] at e; cases e
  have n2 : p ≠ r := fun z => by rw [z, hr] at e; cases e
  rw [put_ne n1, put_ne n2, put_ne n1]
  exact e
def sp_Disk_write (A : Ad) : SpD := fun ds S Q X => ∃ x r rows l d, ds = [.ref x, d] ∧ IsDk A S x r rows l ∧ rows.length < 1000 ∧ knownL A S d ∧
  if isRow d = true then ∀ T, IsDk A T x r (rows ++ [rowI d]) l → Off S T [r] → Q (.int (rows.length : Nat)) T else X (.ref A.NoRow) none S
theorem len_Disk_write (A : Ad) : ∀ ds S Q X, sp_Disk_write A ds S Q X → ds.length = 2 := by rintro _ _ _ _ ⟨_, _, _, _, _, rfl, _⟩; rfl
def r_Disk_write (A : Ad) : DS := (dSeq (dDrop (dCall (sp_check_row A) (dCons (dVar 1) dNil)))
    (dSeq (dDrop (dBM rdAppend (dFld [A.Disk] (Str.ofString "rows") (dVar 0)) (dCons (dVar 1) dNil)))
    (dRet (dOp rdSub (dCB rdLen (dCons (dFld [A.Disk] (Str.ofString "rows") (dVar 0)) dNil)) (dC (.int 1))))))
theorem rd_Disk_write (A : Ad) : Rd (r_Disk_write A) 2 (sp_Disk_write A) := by
  rintro ds S Q X ⟨x, r, rows, l, d, rfl, hD, hl, hk, h⟩
  unfold r_Disk_write
  obtain ⟨dx, ho⟩ := hD.obj
  have hr := hD.lst
  simp only [dSeq, dAsg, dRet, dRetN, dDrop, dRaise, dBreak, dCont, dPar, dAug, dFor, dNext, dSetF, dAugF, dRaiseF, dIfS, dTest, dOp, dVar, dC, dCB, dCons, dNil, dCall, dAndV, dOrV, dNotV, dAndT, dOrT, dNotT, dIf, dTup, dLst, dLstV, dSl, dSlV, rdSlV, oSome, oNone, dNeg, gN, gT, gConsD, gNilD, gSubD, gFldD, dChain, dLc, dBM, isLst, iSeqD, iR1, iR2, iR3, dYes, rdAddV, rdMulV, rdSub, rdDiv, rdMod, rdPow, rdIAdd, rdCmp, rdIsN, isn_non, isn_bl, isn_int, isn_str, isn_ref, isn_tup, isn_rol, isn_obj, rdEqG, rdIx_tup, rdIx_rol, rdIx_put, rdSet, rdLen_tup, rdLen_rol, rdLen_str, rdLen_put, rdInt1, rdInt, rdInt2, rdAppend, rdExt, rdPopAt, rdMaxL, rdMinL, rdListV, rdIsB, isBlV, rdStrI, rdIntS, dFrz, dFld, insOf_put, dMeth, lstOf_rol, lstOf_put, seqOf_tup, seqOf_rol, seqOf_put, frz_tup, frz_rol, frz_int, frz_bl, frz_non, frz_str, frz_obj, startN, wipeD, List.map_cons, List.map_nil, List.length_cons, List.length_nil, Nat.zero_add, Nat.sub_self, Nat.reduceAdd, Nat.reduceSub, List.replicate_succ, List.replicate_zero, List.cons_append, List.nil_append, List.append_nil, List.getElem?_cons_zero, List.getElem?_cons_succ, List.set_cons_zero, List.set_cons_succ, Option.some.injEq, exists_eq_left', DEnds.xd, atI_0, atI_1, atI_2, atI_3, atI_4, atI_5, atI_6, atI_7, ixN_50, ixN_51, ixN_52, ixN_53, ixN_54, ixN_30, ixN_31, ixN_32, put_same, put_put, true_and, and_true, decide_true, decide_false, Bool.not_true, Bool.not_false, Bool.false_eq_true, if_true, if_false, decide_eq_true_eq, Bool.not_eq_true', decide_eq_false_iff_not, mem_one, ex_one, and_self, i_Disk, l_Disk, h_Disk_write, h_Disk_sync, h_Disk_blocks, h_Disk_synced, h_Disk_cut, h_Disk_drop, h_Disk_copy, g_Disk_rows, p_Disk_rows, k_Disk_rows, g_Disk_lasting, p_Disk_lasting, k_Disk_lasting]
  refine ⟨d, rfl, hk, ?_⟩
  cases e : isRow d with
  | false =>
    rw [e, if_neg (by decide)] at h
    rw [if_neg (by decide)]
    exact h
  | true =>
    rw [e, if_pos rfl] at h
    rw [if_pos rfl]
    obtain ⟨e1, _⟩ := row_is e
    have hz : (rows.map tb).length < sizeLine := by rw [sizeLine_eq, List.length_map]; omega
    simp only [dSeq, dAsg, dRet, dRetN, dDrop, dRaise, dBreak, dCont, dPar, dAug, dFor, dNext, dSetF, dAugF, dRaiseF, dIfS, dTest, dOp, dVar, dC, dCB, dCons, dNil, dCall, dAndV, dOrV, dNotV, dAndT, dOrT, dNotT, dIf, dTup, dLst, dLstV, dSl, dSlV, rdSlV, oSome, oNone, dNeg, gN, gT, gConsD, gNilD, gSubD, gFldD, dChain, dLc, dBM, isLst, iSeqD, iR1, iR2, iR3, dYes, rdAddV, rdMulV, rdSub, rdDiv, rdMod, rdPow, rdIAdd, rdCmp, rdIsN, isn_non, isn_bl, isn_int, isn_str, isn_ref, isn_tup, isn_rol, isn_obj, rdEqG, rdIx_tup, rdIx_rol, rdIx_put, rdSet, rdLen_tup, rdLen_rol, rdLen_str, rdLen_put, rdInt1, rdInt, rdInt2, rdAppend, rdExt, rdPopAt, rdMaxL, rdMinL, rdListV, rdIsB, isBlV, rdStrI, rdIntS, dFrz, dFld, insOf_put, dMeth, lstOf_rol, lstOf_put, seqOf_tup, seqOf_rol, seqOf_put, frz_tup, frz_rol, frz_int, frz_bl, frz_non, frz_str, frz_obj, startN, wipeD, List.map_cons, List.map_nil, List.length_cons, List.length_nil, Nat.zero_add, Nat.sub_self, Nat.reduceAdd, Nat.reduceSub, List.replicate_succ, List.replicate_zero, List.cons_append, List.nil_append, List.append_nil, List.getElem?_cons_zero, List.getElem?_cons_succ, List.set_cons_zero, List.set_cons_succ, Option.some.injEq, exists_eq_left', DEnds.xd, atI_0, atI_1, atI_2, atI_3, atI_4, atI_5, atI_6, atI_7, ixN_50, ixN_51, ixN_52, ixN_53, ixN_54, ixN_30, ixN_31, ixN_32, put_same, put_put, true_and, and_true, decide_true, decide_false, Bool.not_true, Bool.not_false, Bool.false_eq_true, if_true, if_false, decide_eq_true_eq, Bool.not_eq_true', decide_eq_false_iff_not, mem_one, ex_one, and_self, i_Disk, l_Disk, h_Disk_write, h_Disk_sync, h_Disk_blocks, h_Disk_synced, h_Disk_cut, h_Disk_drop, h_Disk_copy, g_Disk_rows, p_Disk_rows, k_Disk_rows, g_Disk_lasting, p_Disk_lasting, k_Disk_lasting, insOf_ref ho, hr, insOf_ref ((put_ne hD.ne.symm).trans ho)]
    have e2 : List.map tb rows ++ [d] = List.map tb (rows ++ [rowI d]) := by rw [List.map_append, List.map_cons, List.map_nil, tb, ← e1]
    rw [e2]
    refine ⟨hz, ?_⟩
    have e3 : ((List.map tb (rows ++ [rowI d])).length : Int) - 1 = (rows.length : Nat) := by rw [List.length_map, List.length_append, List.length_singleton]; omega
    rw [e3]
    refine h _ ⟨⟨dx, (put_ne hD.ne.symm).trans ho⟩, put_same, by rw [List.length_append]; have := hD.le; omega, by rw [List.length_append, List.length_singleton]; omega⟩ fun p _ n => put_ne fun z => n (by simp [z])
def sp_Disk_sync (A : Ad) : SpD := fun ds S Q _ => ∃ x r rows l, ds = [.ref x] ∧ IsDk A S x r rows l ∧ ∀ T, IsDk A T x r rows rows.length → Off S T [x] → Q (.int ((rows.length : Int) - l)) T
theorem len_Disk_sync (A : Ad) : ∀ ds S Q X, sp_Disk_sync A ds S Q X → ds.length = 1 := by rintro _ _ _ _ ⟨_, _, _, _, rfl, _⟩; rfl
def r_Disk_sync (A : Ad) : DS := (dSeq (dAsg (dOp rdSub (dCB rdLen (dCons (dFld [A.Disk] (Str.ofString "rows") (dVar 0)) dNil)) (dFld [A.Disk] (Str.ofString "lasting") (dVar 0))) (gN 1))
    (dSeq (dSetF [A.Disk] (Str.ofString "lasting") (dVar 0) (dCB rdLen (dCons (dFld [A.Disk] (Str.ofString "rows") (dVar 0)) dNil)))
    (dRet (dVar 1))))
theorem rd_Disk_sync (A : Ad) : Rd (r_Disk_sync A) 2 (sp_Disk_sync A) := by
  rintro ds S Q X ⟨x, r, rows, l, rfl, hD, h⟩
  unfold r_Disk_sync
  obtain ⟨dx, ho⟩ := hD.obj
  have hr := hD.lst
  simp only [dSeq, dAsg, dRet, dRetN, dDrop, dRaise, dBreak, dCont, dPar, dAug, dFor, dNext, dSetF, dAugF, dRaiseF, dIfS, dTest, dOp, dVar, dC, dCB, dCons, dNil, dCall, dAndV, dOrV, dNotV, dAndT, dOrT, dNotT, dIf, dTup, dLst, dLstV, dSl, dSlV, rdSlV, oSome, oNone, dNeg, gN, gT, gConsD, gNilD, gSubD, gFldD, dChain, dLc, dBM, isLst, iSeqD, iR1, iR2, iR3, dYes, rdAddV, rdMulV, rdSub, rdDiv, rdMod, rdPow, rdIAdd, rdCmp, rdIsN, isn_non, isn_bl, isn_int, isn_str, isn_ref, isn_tup, isn_rol, isn_obj, rdEqG, rdIx_tup, rdIx_rol, rdIx_put, rdSet, rdLen_tup, rdLen_rol, rdLen_str, rdLen_put, rdInt1, rdInt, rdInt2, rdAppend, rdExt, rdPopAt, rdMaxL, rdMinL, rdListV, rdIsB, isBlV, rdStrI, rdIntS, dFrz, dFld, insOf_put, dMeth, lstOf_rol, lstOf_put, seqOf_tup, seqOf_rol, seqOf_put, frz_tup, frz_rol, frz_int, frz_bl, frz_non, frz_str, frz_obj, startN, wipeD, List.map_cons, List.map_nil, List.length_cons, List.length_nil, Nat.zero_add, Nat.sub_self, Nat.reduceAdd, Nat.reduceSub, List.replicate_succ, List.replicate_zero, List.cons_append, List.nil_append, List.append_nil, List.getElem?_cons_zero, List.getElem?_cons_succ, List.set_cons_zero, List.set_cons_succ, Option.some.injEq, exists_eq_left', DEnds.xd, atI_0, atI_1, atI_2, atI_3, atI_4, atI_5, atI_6, atI_7, ixN_50, ixN_51, ixN_52, ixN_53, ixN_54, ixN_30, ixN_31, ixN_32, put_same, put_put, true_and, and_true, decide_true, decide_false, Bool.not_true, Bool.not_false, Bool.false_eq_true, if_true, if_false, decide_eq_true_eq, Bool.not_eq_true', decide_eq_false_iff_not, mem_one, ex_one, and_self, i_Disk, l_Disk, h_Disk_write, h_Disk_sync, h_Disk_blocks, h_Disk_synced, h_Disk_cut, h_Disk_drop, h_Disk_copy, g_Disk_rows, p_Disk_rows, k_Disk_rows, g_Disk_lasting, p_Disk_lasting, k_Disk_lasting, insOf_ref ho, rdLen_ref hr]
  rw [ho]
  simp only [dSeq, dAsg, dRet, dRetN, dDrop, dRaise, dBreak, dCont, dPar, dAug, dFor, dNext, dSetF, dAugF, dRaiseF, dIfS, dTest, dOp, dVar, dC, dCB, dCons, dNil, dCall, dAndV, dOrV, dNotV, dAndT, dOrT, dNotT, dIf, dTup, dLst, dLstV, dSl, dSlV, rdSlV, oSome, oNone, dNeg, gN, gT, gConsD, gNilD, gSubD, gFldD, dChain, dLc, dBM, isLst, iSeqD, iR1, iR2, iR3, dYes, rdAddV, rdMulV, rdSub, rdDiv, rdMod, rdPow, rdIAdd, rdCmp, rdIsN, isn_non, isn_bl, isn_int, isn_str, isn_ref, isn_tup, isn_rol, isn_obj, rdEqG, rdIx_tup, rdIx_rol, rdIx_put, rdSet, rdLen_tup, rdLen_rol, rdLen_str, rdLen_put, rdInt1, rdInt, rdInt2, rdAppend, rdExt, rdPopAt, rdMaxL, rdMinL, rdListV, rdIsB, isBlV, rdStrI, rdIntS, dFrz, dFld, insOf_put, dMeth, lstOf_rol, lstOf_put, seqOf_tup, seqOf_rol, seqOf_put, frz_tup, frz_rol, frz_int, frz_bl, frz_non, frz_str, frz_obj, startN, wipeD, List.map_cons, List.map_nil, List.length_cons, List.length_nil, Nat.zero_add, Nat.sub_self, Nat.reduceAdd, Nat.reduceSub, List.replicate_succ, List.replicate_zero, List.cons_append, List.nil_append, List.append_nil, List.getElem?_cons_zero, List.getElem?_cons_succ, List.set_cons_zero, List.set_cons_succ, Option.some.injEq, exists_eq_left', DEnds.xd, atI_0, atI_1, atI_2, atI_3, atI_4, atI_5, atI_6, atI_7, ixN_50, ixN_51, ixN_52, ixN_53, ixN_54, ixN_30, ixN_31, ixN_32, put_same, put_put, true_and, and_true, decide_true, decide_false, Bool.not_true, Bool.not_false, Bool.false_eq_true, if_true, if_false, decide_eq_true_eq, Bool.not_eq_true', decide_eq_false_iff_not, mem_one, ex_one, and_self, i_Disk, l_Disk, h_Disk_write, h_Disk_sync, h_Disk_blocks, h_Disk_synced, h_Disk_cut, h_Disk_drop, h_Disk_copy, g_Disk_rows, p_Disk_rows, k_Disk_rows, g_Disk_lasting, p_Disk_lasting, k_Disk_lasting]
  rw [List.length_map]
  refine h _ ⟨⟨dx, put_same⟩, (put_ne hD.ne).trans hr, Nat.le_refl _, hD.few⟩ fun p _ n => put_ne fun z => n (by simp [z])
def sp_Disk_blocks (A : Ad) : SpD := fun ds S Q _ => ∃ x r rows l, ds = [.ref x] ∧ IsDk A S x r rows l ∧ ∀ p, S p = none → Q (.ref p) (put S p (.lst (rows.map tb)))
theorem len_Disk_blocks (A : Ad) : ∀ ds S Q X, sp_Disk_blocks A ds S Q X → ds.length = 1 := by rintro _ _ _ _ ⟨_, _, _, _, rfl, _⟩; rfl
def r_Disk_blocks (A : Ad) : DS := (dRet (dCB rdList (dCons (dFld [A.Disk] (Str.ofString "rows") (dVar 0)) dNil)))
theorem rd_Disk_blocks (A : Ad) : Rd (r_Disk_blocks A) 1 (sp_Disk_blocks A) := by
  rintro ds S Q X ⟨x, r, rows, l, rfl, hD, h⟩
  unfold r_Disk_blocks
  obtain ⟨dx, ho⟩ := hD.obj
  simp only [dSeq, dAsg, dRet, dRetN, dDrop, dRaise, dBreak, dCont, dPar, dAug, dFor, dNext, dSetF, dAugF, dRaiseF, dIfS, dTest, dOp, dVar, dC, dCB, dCons, dNil, dCall, dAndV, dOrV, dNotV, dAndT, dOrT, dNotT, dIf, dTup, dLst, dLstV, dSl, dSlV, rdSlV, oSome, oNone, dNeg, gN, gT, gConsD, gNilD, gSubD, gFldD, dChain, dLc, dBM, isLst, iSeqD, iR1, iR2, iR3, dYes, rdAddV, rdMulV, rdSub, rdDiv, rdMod, rdPow, rdIAdd, rdCmp, rdIsN, isn_non, isn_bl, isn_int, isn_str, isn_ref, isn_tup, isn_rol, isn_obj, rdEqG, rdIx_tup, rdIx_rol, rdIx_put, rdSet, rdLen_tup, rdLen_rol, rdLen_str, rdLen_put, rdInt1, rdInt, rdInt2, rdAppend, rdExt, rdPopAt, rdMaxL, rdMinL, rdListV, rdIsB, isBlV, rdStrI, rdIntS, dFrz, dFld, insOf_put, dMeth, lstOf_rol, lstOf_put, seqOf_tup, seqOf_rol, seqOf_put, frz_tup, frz_rol, frz_int, frz_bl, frz_non, frz_str, frz_obj, startN, wipeD, List.map_cons, List.map_nil, List.length_cons, List.length_nil, Nat.zero_add, Nat.sub_self, Nat.reduceAdd, Nat.reduceSub, List.replicate_succ, List.replicate_zero, List.cons_append, List.nil_append, List.append_nil, List.getElem?_cons_zero, List.getElem?_cons_succ, List.set_cons_zero, List.set_cons_succ, Option.some.injEq, exists_eq_left', DEnds.xd, atI_0, atI_1, atI_2, atI_3, atI_4, atI_5, atI_6, atI_7, ixN_50, ixN_51, ixN_52, ixN_53, ixN_54, ixN_30, ixN_31, ixN_32, put_same, put_put, true_and, and_true, decide_true, decide_false, Bool.not_true, Bool.not_false, Bool.false_eq_true, if_true, if_false, decide_eq_true_eq, Bool.not_eq_true', decide_eq_false_iff_not, mem_one, ex_one, and_self, i_Disk, l_Disk, h_Disk_write, h_Disk_sync, h_Disk_blocks, h_Disk_synced, h_Disk_cut, h_Disk_drop, h_Disk_copy, g_Disk_rows, p_Disk_rows, k_Disk_rows, g_Disk_lasting, p_Disk_lasting, k_Disk_lasting, insOf_ref ho]
  unfold rdList
  dsimp only
  rw [seqOf_ref hD.lst]
  exact h
def sp_Disk_synced (A : Ad) : SpD := fun ds S Q _ => ∃ x r rows l, ds = [.ref x] ∧ IsDk A S x r rows l ∧ Q (.int (l : Nat)) S
theorem len_Disk_synced (A : Ad) : ∀ ds S Q X, sp_Disk_synced A ds S Q X → ds.length = 1 := by rintro _ _ _ _ ⟨_, _, _, _, rfl, _⟩; rfl
def r_Disk_synced (A : Ad) : DS := (dRet (dFld [A.Disk] (Str.ofString "lasting") (dVar 0)))
theorem rd_Disk_synced (A : Ad) : Rd (r_Disk_synced A) 1 (sp_Disk_synced A) := by
  rintro ds S Q X ⟨x, r, rows, l, rfl, hD, h⟩
  unfold r_Disk_synced
  obtain ⟨dx, ho⟩ := hD.obj
  simp only [dSeq, dAsg, dRet, dRetN, dDrop, dRaise, dBreak, dCont, dPar, dAug, dFor, dNext, dSetF, dAugF, dRaiseF, dIfS, dTest, dOp, dVar, dC, dCB, dCons, dNil, dCall, dAndV, dOrV, dNotV, dAndT, dOrT, dNotT, dIf, dTup, dLst, dLstV, dSl, dSlV, rdSlV, oSome, oNone, dNeg, gN, gT, gConsD, gNilD, gSubD, gFldD, dChain, dLc, dBM, isLst, iSeqD, iR1, iR2, iR3, dYes, rdAddV, rdMulV, rdSub, rdDiv, rdMod, rdPow, rdIAdd, rdCmp, rdIsN, isn_non, isn_bl, isn_int, isn_str, isn_ref, isn_tup, isn_rol, isn_obj, rdEqG, rdIx_tup, rdIx_rol, rdIx_put, rdSet, rdLen_tup, rdLen_rol, rdLen_str, rdLen_put, rdInt1, rdInt, rdInt2, rdAppend, rdExt, rdPopAt, rdMaxL, rdMinL, rdListV, rdIsB, isBlV, rdStrI, rdIntS, dFrz, dFld, insOf_put, dMeth, lstOf_rol, lstOf_put, seqOf_tup, seqOf_rol, seqOf_put, frz_tup, frz_rol, frz_int, frz_bl, frz_non, frz_str, frz_obj, startN, wipeD, List.map_cons, List.map_nil, List.length_cons, List.length_nil, Nat.zero_add, Nat.sub_self, Nat.reduceAdd, Nat.reduceSub, List.replicate_succ, List.replicate_zero, List.cons_append, List.nil_append, List.append_nil, List.getElem?_cons_zero, List.getElem?_cons_succ, List.set_cons_zero, List.set_cons_succ, Option.some.injEq, exists_eq_left', DEnds.xd, atI_0, atI_1, atI_2, atI_3, atI_4, atI_5, atI_6, atI_7, ixN_50, ixN_51, ixN_52, ixN_53, ixN_54, ixN_30, ixN_31, ixN_32, put_same, put_put, true_and, and_true, decide_true, decide_false, Bool.not_true, Bool.not_false, Bool.false_eq_true, if_true, if_false, decide_eq_true_eq, Bool.not_eq_true', decide_eq_false_iff_not, mem_one, ex_one, and_self, i_Disk, l_Disk, h_Disk_write, h_Disk_sync, h_Disk_blocks, h_Disk_synced, h_Disk_cut, h_Disk_drop, h_Disk_copy, g_Disk_rows, p_Disk_rows, k_Disk_rows, g_Disk_lasting, p_Disk_lasting, k_Disk_lasting, insOf_ref ho]
  exact h
/-! ### how much of each row is kept -/
def fB : Dv → Bool
  | .tup [m, .tup row] => within m 0 row.length
  | _ => false
def fCut : Dv → Dv
  | .tup [.int m, .tup row] => .tup (VD.cutD row none (some m))
  | .tup [.tup row, .int m] => .tup (VD.cutD row none (some m))
  | _ => .non
def cutOk (ws : List (List Int)) (d : Dv) : Bool := match d with
  | .tup ks => decide (ks.length = ws.length) && (pairs ks (ws.map tb)).all fB
  | _ => false
def cutW (ws : List (List Int)) (ks : List Int) : List (List Int) := List.zipWith (fun (r : List Int) (k : Int) => r.take k.toNat) ws ks
theorem cut_is : ∀ (ws : List (List Int)) (ks : List Dv), ks.length = ws.length → (pairs ks (ws.map tb)).all fB = true → ks = (ks.map ivl).map Dv.int ∧ (pairs ks (ws.map tb)).map fCut = (cutW ws (ks.map ivl)).map tb ∧ (pairs (ws.map tb) ks).map fCut = (cutW ws (ks.map ivl)).map tb
  | [], [], _, _ => ⟨rfl, rfl, rfl⟩
  | [], _ :: _, h, _ => by cases h
  | _ :: _, [], h, _ => by cases h
  | w :: ws, k :: ks, h, ha => by
    have ha : (fB (.tup [k, tb w]) && (pairs ks (ws.map tb)).all fB) = true := ha
    rw [Bool.and_eq_true] at ha
    obtain ⟨h1, h2⟩ := ha
    obtain ⟨e1, e2, e3⟩ := cut_is ws ks (Nat.succ.inj h) h2
    have h1 : within k 0 ((List.map Dv.int w).length : Nat) = true := h1
    obtain ⟨i, rfl, i0, i1⟩ := within_i.mp h1
    have et : VD.cutD (List.map Dv.int w) none (some i) = List.map Dv.int (w.take i.toNat) := by
      obtain ⟨n, rfl⟩ := Int.eq_ofNat_of_zero_le i0
      rw [cut_take (by omega), List.map_take]
    refine ⟨?_, ?_, ?_⟩
    · rw [List.map_cons, List.map_cons, ← e1]
      rfl
    · show fCut (.tup [.int i, tb w]) :: (pairs ks (ws.map tb)).map fCut = tb (w.take i.toNat) :: (cutW ws (ks.map ivl)).map tb
      rw [e2]
      show Dv.tup (VD.cutD (List.map Dv.int w) none (some i)) :: _ = _
      rw [et]
      rfl
    · show fCut (.tup [tb w, .int i]) :: (pairs (ws.map tb) ks).map fCut = tb (w.take i.toNat) :: (cutW ws (ks.map ivl)).map tb
      rw [e3]
      show Dv.tup (VD.cutD (List.map Dv.int w) none (some i)) :: _ = _
      rw [et]
      rfl
theorem cutW_len {ws : List (List Int)} {ks : List Int} (h : ks.length = ws.length) : (cutW ws ks).length = ws.length := by unfold cutW; simp; omega
def cutR (rows : List (List Int)) (l : Nat) (d : Dv) : List (List Int) := rows.take l ++ cutW (rows.drop l) (rowI d)
def sized (d : Dv) (a b : Int) : Bool := match d with
  | .tup xs => decide (a ≤ xs.length ∧ (xs.length : Int) ≤ b)
  | _ => false
def sp_is_sized (A : Ad) : SpD := fun ds S Q _ => ∃ d a b, ds = [d, .int a, .int b] ∧ known A S d ∧ Q (.bl (sized d a b)) S
theorem len_is_sized (A : Ad) : ∀ ds S Q X, sp_is_sized A ds S Q X → ds.length = 3 := by rintro _ _ _ _ ⟨_, _, _, rfl, _⟩; rfl
def r_is_sized (A : Ad) : DS := (dRet (dAndV (dCB (rdIsi A.ot) (dCons (dVar 0) (dCons (dC (.ty "tuple")) dNil))) (dChain rdLe rdLe (dVar 1) (dCB rdLen (dCons (dVar 0) dNil)) (dVar 2))))
theorem rd_is_sized (A : Ad) : Rd (r_is_sized A) 3 (sp_is_sized A) := by
  rintro ds S Q X ⟨d, a, b, rfl, hk, h⟩
  unfold r_is_sized
  simp only [dSeq, dAsg, dRet, dRetN, dDrop, dRaise, dBreak, dCont, dPar, dAug, dFor, dNext, dSetF, dAugF, dRaiseF, dIfS, dTest, dOp, dVar, dC, dCB, dCons, dNil, dCall, dAndV, dOrV, dNotV, dAndT, dOrT, dNotT, dIf, dTup, dLst, dLstV, dSl, dSlV, rdSlV, oSome, oNone, dNeg, gN, gT, gConsD, gNilD, gSubD, gFldD, dChain, dLc, dBM, isLst, iSeqD, iR1, iR2, iR3, dYes, rdAddV, rdMulV, rdSub, rdDiv, rdMod, rdPow, rdIAdd, rdCmp, rdIsN, isn_non, isn_bl, isn_int, isn_str, isn_ref, isn_tup, isn_rol, isn_obj, rdEqG, rdIx_tup, rdIx_rol, rdIx_put, rdSet, rdLen_tup, rdLen_rol, rdLen_str, rdLen_put, rdInt1, rdInt, rdInt2, rdAppend, rdExt, rdPopAt, rdMaxL, rdMinL, rdListV, rdIsB, isBlV, rdStrI, rdIntS, dFrz, dFld, insOf_put, dMeth, lstOf_rol, lstOf_put, seqOf_tup, seqOf_rol, seqOf_put, frz_tup, frz_rol, frz_int, frz_bl, frz_non, frz_str, frz_obj, startN, wipeD, List.map_cons, List.map_nil, List.length_cons, List.length_nil, Nat.zero_add, Nat.sub_self, Nat.reduceAdd, Nat.reduceSub, List.replicate_succ, List.replicate_zero, List.cons_append, List.nil_append, List.append_nil, List.getElem?_cons_zero, List.getElem?_cons_succ, List.set_cons_zero, List.set_cons_succ, Option.some.injEq, exists_eq_left', DEnds.xd, atI_0, atI_1, atI_2, atI_3, atI_4, atI_5, atI_6, atI_7, ixN_50, ixN_51, ixN_52, ixN_53, ixN_54, ixN_30, ixN_31, ixN_32, put_same, put_put, true_and, and_true, decide_true, decide_false, Bool.not_true, Bool.not_false, Bool.false_eq_true, if_true, if_false, decide_eq_true_eq, Bool.not_eq_true', decide_eq_false_iff_not, mem_one, ex_one, and_self, i_Disk, l_Disk, h_Disk_write, h_Disk_sync, h_Disk_blocks, h_Disk_synced, h_Disk_cut, h_Disk_drop, h_Disk_copy, g_Disk_rows, p_Disk_rows, k_Disk_rows, g_Disk_lasting, p_Disk_lasting, k_Disk_lasting]
  refine isi_tuple hk ?_
  cases d with
  | tup xs =>
    unfold sized at h
    dsimp only at h
    simp only [dSeq, dAsg, dRet, dRetN, dDrop, dRaise, dBreak, dCont, dPar, dAug, dFor, dNext, dSetF, dAugF, dRaiseF, dIfS, dTest, dOp, dVar, dC, dCB, dCons, dNil, dCall, dAndV, dOrV, dNotV, dAndT, dOrT, dNotT, dIf, dTup, dLst, dLstV, dSl, dSlV, rdSlV, oSome, oNone, dNeg, gN, gT, gConsD, gNilD, gSubD, gFldD, dChain, dLc, dBM, isLst, iSeqD, iR1, iR2, iR3, dYes, rdAddV, rdMulV, rdSub, rdDiv, rdMod, rdPow, rdIAdd, rdCmp, rdIsN, isn_non, isn_bl, isn_int, isn_str, isn_ref, isn_tup, isn_rol, isn_obj, rdEqG, rdIx_tup, rdIx_rol, rdIx_put, rdSet, rdLen_tup, rdLen_rol, rdLen_str, rdLen_put, rdInt1, rdInt, rdInt2, rdAppend, rdExt, rdPopAt, rdMaxL, rdMinL, rdListV, rdIsB, isBlV, rdStrI, rdIntS, dFrz, dFld, insOf_put, dMeth, lstOf_rol, lstOf_put, seqOf_tup, seqOf_rol, seqOf_put, frz_tup, frz_rol, frz_int, frz_bl, frz_non, frz_str, frz_obj, startN, wipeD, List.map_cons, List.map_nil, List.length_cons, List.length_nil, Nat.zero_add, Nat.sub_self, Nat.reduceAdd, Nat.reduceSub, List.replicate_succ, List.replicate_zero, List.cons_append, List.nil_append, List.append_nil, List.getElem?_cons_zero, List.getElem?_cons_succ, List.set_cons_zero, List.set_cons_succ, Option.some.injEq, exists_eq_left', DEnds.xd, atI_0, atI_1, atI_2, atI_3, atI_4, atI_5, atI_6, atI_7, ixN_50, ixN_51, ixN_52, ixN_53, ixN_54, ixN_30, ixN_31, ixN_32, put_same, put_put, true_and, and_true, decide_true, decide_false, Bool.not_true, Bool.not_false, Bool.false_eq_true, if_true, if_false, decide_eq_true_eq, Bool.not_eq_true', decide_eq_false_iff_not, mem_one, ex_one, and_self, i_Disk, l_Disk, h_Disk_write, h_Disk_sync, h_Disk_blocks, h_Disk_synced, h_Disk_cut, h_Disk_drop, h_Disk_copy, g_Disk_rows, p_Disk_rows, k_Disk_rows, g_Disk_lasting, p_Disk_lasting, k_Disk_lasting, isTup]
    by_cases h1 : a ≤ (xs.length : Int)
    · rw [decide_eq_true h1]
      rw [decide_eq_decide.mpr (show (a ≤ (xs.length : Int) ∧ (xs.length : Int) ≤ b) ↔ (xs.length : Int) ≤ b from ⟨And.right, fun z => ⟨h1, z⟩⟩)] at h
      exact h
    · rw [decide_eq_false h1]
      rw [decide_eq_false fun z => h1 z.1] at h
      exact h
  | _ => simp only [dSeq, dAsg, dRet, dRetN, dDrop, dRaise, dBreak, dCont, dPar, dAug, dFor, dNext, dSetF, dAugF, dRaiseF, dIfS, dTest, dOp, dVar, dC, dCB, dCons, dNil, dCall, dAndV, dOrV, dNotV, dAndT, dOrT, dNotT, dIf, dTup, dLst, dLstV, dSl, dSlV, rdSlV, oSome, oNone, dNeg, gN, gT, gConsD, gNilD, gSubD, gFldD, dChain, dLc, dBM, isLst, iSeqD, iR1, iR2, iR3, dYes, rdAddV, rdMulV, rdSub, rdDiv, rdMod, rdPow, rdIAdd, rdCmp, rdIsN, isn_non, isn_bl, isn_int, isn_str, isn_ref, isn_tup, isn_rol, isn_obj, rdEqG, rdIx_tup, rdIx_rol, rdIx_put, rdSet, rdLen_tup, rdLen_rol, rdLen_str, rdLen_put, rdInt1, rdInt, rdInt2, rdAppend, rdExt, rdPopAt, rdMaxL, rdMinL, rdListV, rdIsB, isBlV, rdStrI, rdIntS, dFrz, dFld, insOf_put, dMeth, lstOf_rol, lstOf_put, seqOf_tup, seqOf_rol, seqOf_put, frz_tup, frz_rol, frz_int, frz_bl, frz_non, frz_str, frz_obj, startN, wipeD, List.map_cons, List.map_nil, List.length_cons, List.length_nil, Nat.zero_add, Nat.sub_self, Nat.reduceAdd, Nat.reduceSub, List.replicate_succ, List.replicate_zero, List.cons_append, List.nil_append, List.append_nil, List.getElem?_cons_zero, List.getElem?_cons_succ, List.set_cons_zero, List.set_cons_succ, Option.some.injEq, exists_eq_left', DEnds.xd, atI_0, atI_1, atI_2, atI_3, atI_4, atI_5, atI_6, atI_7, ixN_50, ixN_51, ixN_52, ixN_53, ixN_54, ixN_30, ixN_31, ixN_32, put_same, put_put, true_and, and_true, decide_true, decide_false, Bool.not_true, Bool.not_false, Bool.false_eq_true, if_true, if_false, decide_eq_true_eq, Bool.not_eq_true', decide_eq_false_iff_not, mem_one, ex_one, and_self, i_Disk, l_Disk, h_Disk_write, h_Disk_sync, h_Disk_blocks, h_Disk_synced, h_Disk_cut, h_Disk_drop, h_Disk_copy, g_Disk_rows, p_Disk_rows, k_Disk_rows, g_Disk_lasting, p_Disk_lasting, k_Disk_lasting, isTup]; exact h
theorem cut_drop2 {rows : List (List Int)} {l : Nat} : VD.cutD (List.map tb rows) (some (l : Int)) none = (rows.drop l).map tb := by rw [cut_drop (by omega), List.map_drop, Int.toNat_natCast]
theorem cut_take2 {rows : List (List Int)} {l : Nat} : VD.cutD (List.map tb rows) none (some (l : Int)) = (rows.take l).map tb := by rw [cut_take (by omega), List.map_take, Int.toNat_natCast]
end Lw

--CLS Disk
namespace Lw
open PySem PySem.Spec PyProof.Rows L2 VD
theorem pairs_mem {xs ys : List Dv} {z : Dv} (h : z ∈ pairs xs ys) : ∃ x y, x ∈ xs ∧ y ∈ ys ∧ z = .tup [x, y] := by
  obtain ⟨i, hi⟩ := List.getElem?_of_mem h
  obtain ⟨x, y, h1, h2, e⟩ := pairs_get hi
  exact ⟨x, y, List.mem_of_getElem? h1, List.mem_of_getElem? h2, e⟩
theorem mem_tb {ws : List (List Int)} {y : Dv} (h : y ∈ ws.map tb) : ∃ w, w ∈ ws ∧ y = .tup (w.map Dv.int) := by
  obtain ⟨w, hw, rfl⟩ := List.mem_map.mp h
  exact ⟨w, hw, rfl⟩
def sp_Disk_cut (A : Ad) : SpD := fun ds S Q X => ∃ x r rows l d, ds = [.ref x, d] ∧ IsDk A S x r rows l ∧ knownL A S d ∧
  if cutOk (rows.drop l) d = true then ∀ r' T, IsDk A T x r' (cutR rows l d) rows.length → S r' = none → Off S T [x] → Q .non T else X (.ref A.NoCut) none S
theorem len_Disk_cut (A : Ad) : ∀ ds S Q X, sp_Disk_cut A ds S Q X → ds.length = 2 := by rintro _ _ _ _ ⟨_, _, _, _, _, rfl, _⟩; rfl
def r_Disk_cut (A : Ad) : DS := (dSeq (dAsg (dSlV (dFld [A.Disk] (Str.ofString "rows") (dVar 0)) (oSome (dFld [A.Disk] (Str.ofString "lasting") (dVar 0))) oNone) (gN 2))
    (dSeq (dIfS (dNotT (dTest (dCall (sp_is_sized A) (dCons (dVar 1) (dCons (dCB rdLen (dCons (dVar 2) dNil)) (dCons (dCB rdLen (dCons (dVar 2) dNil)) dNil)))))) (dRaise (.ref A.NoCut)) dNext)
    (dSeq (dIfS (dNotT (dTest (dCB rdAll (dCons (dFrz (dLc (iZipM (dCons (dVar 1) (dCons (dVar 2) dNil))) (gT 2 (gConsD (gN 3) (gConsD (gN 4) gNilD))) dYes (dCall (sp_is_within A) (dCons (dVar 3) (dCons (dC (.int 0)) (dCons (dCB rdLen (dCons (dVar 4) dNil)) dNil)))) [3, 4])) dNil)))) (dRaise (.ref A.NoCut)) dNext)
    (dSeq (dSetF [A.Disk] (Str.ofString "rows") (dVar 0) (dOp rdAdd (dSlV (dFld [A.Disk] (Str.ofString "rows") (dVar 0)) oNone (oSome (dFld [A.Disk] (Str.ofString "lasting") (dVar 0)))) (dFrz (dLc (iZipM (dCons (dVar 1) (dCons (dVar 2) dNil))) (gT 2 (gConsD (gN 3) (gConsD (gN 4) gNilD))) dYes (dSlV (dVar 4) oNone (oSome (dVar 3))) [3, 4]))))
    (dSetF [A.Disk] (Str.ofString "lasting") (dVar 0) (dCB rdLen (dCons (dFld [A.Disk] (Str.ofString "rows") (dVar 0)) dNil)))))))
theorem rd_Disk_cut (A : Ad) : Rd (r_Disk_cut A) 5 (sp_Disk_cut A) := by
  rintro ds S Q X ⟨x, r, rows, l, d, rfl, hD, hk, h⟩
  unfold r_Disk_cut
  obtain ⟨dx, ho⟩ := hD.obj
  have hr := hD.lst
  have hlr := hD.le
  have hfew := hD.few
  simp only [dSeq, dAsg, dRet, dRetN, dDrop, dRaise, dBreak, dCont, dPar, dAug, dFor, dNext, dSetF, dAugF, dRaiseF, dIfS, dTest, dOp, dVar, dC, dCB, dCons, dNil, dCall, dAndV, dOrV, dNotV, dAndT, dOrT, dNotT, dIf, dTup, dLst, dLstV, dSl, dSlV, rdSlV, oSome, oNone, dNeg, gN, gT, gConsD, gNilD, gSubD, gFldD, dChain, dLc, dBM, isLst, iSeqD, iR1, iR2, iR3, dYes, rdAddV, rdMulV, rdSub, rdDiv, rdMod, rdPow, rdIAdd, rdCmp, rdIsN, isn_non, isn_bl, isn_int, isn_str, isn_ref, isn_tup, isn_rol, isn_obj, rdEqG, rdIx_tup, rdIx_rol, rdIx_put, rdSet, rdLen_tup, rdLen_rol, rdLen_str, rdLen_put, rdInt1, rdInt, rdInt2, rdAppend, rdExt, rdPopAt, rdMaxL, rdMinL, rdListV, rdIsB, isBlV, rdStrI, rdIntS, dFrz, dFld, insOf_put, dMeth, lstOf_rol, lstOf_put, seqOf_tup, seqOf_rol, seqOf_put, frz_tup, frz_rol, frz_int, frz_bl, frz_non, frz_str, frz_obj, startN, wipeD, List.map_cons, List.map_nil, List.length_cons, List.length_nil, Nat.zero_add, Nat.sub_self, Nat.reduceAdd, Nat.reduceSub, List.replicate_succ, List.replicate_zero, List.cons_append, List.nil_append, List.append_nil, List.getElem?_cons_zero, List.getElem?_cons_succ, List.set_cons_zero, List.set_cons_succ, Option.some.injEq, exists_eq_left', DEnds.xd, atI_0, atI_1, atI_2, atI_3, atI_4, atI_5, atI_6, atI_7, ixN_50, ixN_51, ixN_52, ixN_53, ixN_54, ixN_30, ixN_31, ixN_32, put_same, put_put, true_and, and_true, decide_true, decide_false, Bool.not_true, Bool.not_false, Bool.false_eq_true, if_true, if_false, decide_eq_true_eq, Bool.not_eq_true', decide_eq_false_iff_not, mem_one, ex_one, and_self, i_Disk, l_Disk, h_Disk_write, h_Disk_sync, h_Disk_blocks, h_Disk_synced, h_Disk_cut, h_Disk_drop, h_Disk_copy, g_Disk_rows, p_Disk_rows, k_Disk_rows, g_Disk_lasting, p_Disk_lasting, k_Disk_lasting, insOf_ref ho]
  rw [lstOf_ref hr, cut_drop2]
  refine ⟨d, _, _, rfl, hk.1, ?_⟩
  generalize hw : rows.drop l = ws
  rw [hw] at h
  have hwl : ws.length = rows.length - l := by rw [← hw, List.length_drop]
  cases es : sized d ((List.map tb ws).length : Nat) ((List.map tb ws).length : Nat) with
  | false =>
    dsimp only
    rw [if_pos rfl]
    have e : cutOk ws d = false := by
      cases d with
      | tup ks =>
        have es : decide (((List.map tb ws).length : Int) ≤ ks.length ∧ (ks.length : Int) ≤ ((List.map tb ws).length : Nat)) = false := es
        have es := of_decide_eq_false es
        rw [List.length_map] at es
        show (decide (ks.length = ws.length) && _) = false
        rw [decide_eq_false (by omega)]
        rfl
      | _ => rfl
    rw [e, if_neg (by decide)] at h
    exact h
  | true =>
    dsimp only
    rw [if_neg (by decide)]
    obtain ⟨ks, rfl, hkl⟩ : ∃ ks, d = .tup ks ∧ ks.length = ws.length := by
      cases d with
      | tup ks =>
        have es : decide (((List.map tb ws).length : Int) ≤ ks.length ∧ (ks.length : Int) ≤ ((List.map tb ws).length : Nat)) = true := es
        have es := of_decide_eq_true es
        rw [List.length_map] at es
        exact ⟨ks, rfl, by omega⟩
      | _ => cases es
    have hcut : cutOk ws (.tup ks) = (pairs ks (ws.map tb)).all fB := by
      show (decide (ks.length = ws.length) && _) = _
      rw [decide_eq_true hkl, Bool.true_and]
    rw [hcut] at h
    simp only [dSeq, dAsg, dRet, dRetN, dDrop, dRaise, dBreak, dCont, dPar, dAug, dFor, dNext, dSetF, dAugF, dRaiseF, dIfS, dTest, dOp, dVar, dC, dCB, dCons, dNil, dCall, dAndV, dOrV, dNotV, dAndT, dOrT, dNotT, dIf, dTup, dLst, dLstV, dSl, dSlV, rdSlV, oSome, oNone, dNeg, gN, gT, gConsD, gNilD, gSubD, gFldD, dChain, dLc, dBM, isLst, iSeqD, iR1, iR2, iR3, dYes, rdAddV, rdMulV, rdSub, rdDiv, rdMod, rdPow, rdIAdd, rdCmp, rdIsN, isn_non, isn_bl, isn_int, isn_str, isn_ref, isn_tup, isn_rol, isn_obj, rdEqG, rdIx_tup, rdIx_rol, rdIx_put, rdSet, rdLen_tup, rdLen_rol, rdLen_str, rdLen_put, rdInt1, rdInt, rdInt2, rdAppend, rdExt, rdPopAt, rdMaxL, rdMinL, rdListV, rdIsB, isBlV, rdStrI, rdIntS, dFrz, dFld, insOf_put, dMeth, lstOf_rol, lstOf_put, seqOf_tup, seqOf_rol, seqOf_put, frz_tup, frz_rol, frz_int, frz_bl, frz_non, frz_str, frz_obj, startN, wipeD, List.map_cons, List.map_nil, List.length_cons, List.length_nil, Nat.zero_add, Nat.sub_self, Nat.reduceAdd, Nat.reduceSub, List.replicate_succ, List.replicate_zero, List.cons_append, List.nil_append, List.append_nil, List.getElem?_cons_zero, List.getElem?_cons_succ, List.set_cons_zero, List.set_cons_succ, Option.some.injEq, exists_eq_left', DEnds.xd, atI_0, atI_1, atI_2, atI_3, atI_4, atI_5, atI_6, atI_7, ixN_50, ixN_51, ixN_52, ixN_53, ixN_54, ixN_30, ixN_31, ixN_32, put_same, put_put, true_and, and_true, decide_true, decide_false, Bool.not_true, Bool.not_false, Bool.false_eq_true, if_true, if_false, decide_eq_true_eq, Bool.not_eq_true', decide_eq_false_iff_not, mem_one, ex_one, and_self, i_Disk, l_Disk, h_Disk_write, h_Disk_sync, h_Disk_blocks, h_Disk_synced, h_Disk_cut, h_Disk_drop, h_Disk_copy, g_Disk_rows, p_Disk_rows, k_Disk_rows, g_Disk_lasting, p_Disk_lasting, k_Disk_lasting, iZipM]
    refine ⟨ks, ws.map tb, rfl, rfl, ?_⟩
    refine lcV_pure (fun z => Dv.bl (fB z)) (by rw [VD.pairs_len, List.length_map, sizeLine_eq]; omega) (fun _ _ _ => ⟨rfl, rfl⟩) (fun z hz T Kq hs hq => ?_) ?_
    · obtain ⟨k, y, hk1, hy, rfl⟩ := pairs_mem hz
      obtain ⟨w, hw1, rfl⟩ := mem_tb hy
      simp only [dSeq, dAsg, dRet, dRetN, dDrop, dRaise, dBreak, dCont, dPar, dAug, dFor, dNext, dSetF, dAugF, dRaiseF, dIfS, dTest, dOp, dVar, dC, dCB, dCons, dNil, dCall, dAndV, dOrV, dNotV, dAndT, dOrT, dNotT, dIf, dTup, dLst, dLstV, dSl, dSlV, rdSlV, oSome, oNone, dNeg, gN, gT, gConsD, gNilD, gSubD, gFldD, dChain, dLc, dBM, isLst, iSeqD, iR1, iR2, iR3, dYes, rdAddV, rdMulV, rdSub, rdDiv, rdMod, rdPow, rdIAdd, rdCmp, rdIsN, isn_non, isn_bl, isn_int, isn_str, isn_ref, isn_tup, isn_rol, isn_obj, rdEqG, rdIx_tup, rdIx_rol, rdIx_put, rdSet, rdLen_tup, rdLen_rol, rdLen_str, rdLen_put, rdInt1, rdInt, rdInt2, rdAppend, rdExt, rdPopAt, rdMaxL, rdMinL, rdListV, rdIsB, isBlV, rdStrI, rdIntS, dFrz, dFld, insOf_put, dMeth, lstOf_rol, lstOf_put, seqOf_tup, seqOf_rol, seqOf_put, frz_tup, frz_rol, frz_int, frz_bl, frz_non, frz_str, frz_obj, startN, wipeD, List.map_cons, List.map_nil, List.length_cons, List.length_nil, Nat.zero_add, Nat.sub_self, Nat.reduceAdd, Nat.reduceSub, List.replicate_succ, List.replicate_zero, List.cons_append, List.nil_append, List.append_nil, List.getElem?_cons_zero, List.getElem?_cons_succ, List.set_cons_zero, List.set_cons_succ, Option.some.injEq, exists_eq_left', DEnds.xd, atI_0, atI_1, atI_2, atI_3, atI_4, atI_5, atI_6, atI_7, ixN_50, ixN_51, ixN_52, ixN_53, ixN_54, ixN_30, ixN_31, ixN_32, put_same, put_put, true_and, and_true, decide_true, decide_false, Bool.not_true, Bool.not_false, Bool.false_eq_true, if_true, if_false, decide_eq_true_eq, Bool.not_eq_true', decide_eq_false_iff_not, mem_one, ex_one, and_self, i_Disk, l_Disk, h_Disk_write, h_Disk_sync, h_Disk_blocks, h_Disk_synced, h_Disk_cut, h_Disk_drop, h_Disk_copy, g_Disk_rows, p_Disk_rows, k_Disk_rows, g_Disk_lasting, p_Disk_lasting, k_Disk_lasting]
      exact ⟨k, 0, _, rfl, (hk.2 k hk1).sub hs, hq⟩
    rw [all_map]
    refine all_rol ?_
    rw [List.all_map, Function.id_comp]
    cases ea : (pairs ks (ws.map tb)).all fB with
    | false =>
      rw [ea, if_neg (by decide)] at h
      dsimp only
      rw [if_pos rfl]
      exact h
    | true =>
    rw [ea, if_pos rfl] at h
    dsimp only
    rw [if_neg (by decide)]
    obtain ⟨e1, e2, e3⟩ := cut_is ws ks hkl ea
    simp only [dSeq, dAsg, dRet, dRetN, dDrop, dRaise, dBreak, dCont, dPar, dAug, dFor, dNext, dSetF, dAugF, dRaiseF, dIfS, dTest, dOp, dVar, dC, dCB, dCons, dNil, dCall, dAndV, dOrV, dNotV, dAndT, dOrT, dNotT, dIf, dTup, dLst, dLstV, dSl, dSlV, rdSlV, oSome, oNone, dNeg, gN, gT, gConsD, gNilD, gSubD, gFldD, dChain, dLc, dBM, isLst, iSeqD, iR1, iR2, iR3, dYes, rdAddV, rdMulV, rdSub, rdDiv, rdMod, rdPow, rdIAdd, rdCmp, rdIsN, isn_non, isn_bl, isn_int, isn_str, isn_ref, isn_tup, isn_rol, isn_obj, rdEqG, rdIx_tup, rdIx_rol, rdIx_put, rdSet, rdLen_tup, rdLen_rol, rdLen_str, rdLen_put, rdInt1, rdInt, rdInt2, rdAppend, rdExt, rdPopAt, rdMaxL, rdMinL, rdListV, rdIsB, isBlV, rdStrI, rdIntS, dFrz, dFld, insOf_put, dMeth, lstOf_rol, lstOf_put, seqOf_tup, seqOf_rol, seqOf_put, frz_tup, frz_rol, frz_int, frz_bl, frz_non, frz_str, frz_obj, startN, wipeD, List.map_cons, List.map_nil, List.length_cons, List.length_nil, Nat.zero_add, Nat.sub_self, Nat.reduceAdd, Nat.reduceSub, List.replicate_succ, List.replicate_zero, List.cons_append, List.nil_append, List.append_nil, List.getElem?_cons_zero, List.getElem?_cons_succ, List.set_cons_zero, List.set_cons_succ, Option.some.injEq, exists_eq_left', DEnds.xd, atI_0, atI_1, atI_2, atI_3, atI_4, atI_5, atI_6, atI_7, ixN_50, ixN_51, ixN_52, ixN_53, ixN_54, ixN_30, ixN_31, ixN_32, put_same, put_put, true_and, and_true, decide_true, decide_false, Bool.not_true, Bool.not_false, Bool.false_eq_true, if_true, if_false, decide_eq_true_eq, Bool.not_eq_true', decide_eq_false_iff_not, mem_one, ex_one, and_self, i_Disk, l_Disk, h_Disk_write, h_Disk_sync, h_Disk_blocks, h_Disk_synced, h_Disk_cut, h_Disk_drop, h_Disk_copy, g_Disk_rows, p_Disk_rows, k_Disk_rows, g_Disk_lasting, p_Disk_lasting, k_Disk_lasting, insOf_ref ho]
    rw [lstOf_ref hr, cut_take2]
    refine ⟨ks, ws.map tb, rfl, rfl, ?_⟩
    refine lcV_pure fCut (by rw [VD.pairs_len, List.length_map, sizeLine_eq]; omega) (fun _ _ _ => ⟨rfl, rfl⟩) (fun z hz T Kq hs hq => ?_) ?_
    · obtain ⟨k, y, hk1, hy, rfl⟩ := pairs_mem hz
      obtain ⟨w, hw1, rfl⟩ := mem_tb hy
      rw [e1] at hk1
      obtain ⟨i, hi, rfl⟩ := List.mem_map.mp hk1
      simp only [dSeq, dAsg, dRet, dRetN, dDrop, dRaise, dBreak, dCont, dPar, dAug, dFor, dNext, dSetF, dAugF, dRaiseF, dIfS, dTest, dOp, dVar, dC, dCB, dCons, dNil, dCall, dAndV, dOrV, dNotV, dAndT, dOrT, dNotT, dIf, dTup, dLst, dLstV, dSl, dSlV, rdSlV, oSome, oNone, dNeg, gN, gT, gConsD, gNilD, gSubD, gFldD, dChain, dLc, dBM, isLst, iSeqD, iR1, iR2, iR3, dYes, rdAddV, rdMulV, rdSub, rdDiv, rdMod, rdPow, rdIAdd, rdCmp, rdIsN, isn_non, isn_bl, isn_int, isn_str, isn_ref, isn_tup, isn_rol, isn_obj, rdEqG, rdIx_tup, rdIx_rol, rdIx_put, rdSet, rdLen_tup, rdLen_rol, rdLen_str, rdLen_put, rdInt1, rdInt, rdInt2, rdAppend, rdExt, rdPopAt, rdMaxL, rdMinL, rdListV, rdIsB, isBlV, rdStrI, rdIntS, dFrz, dFld, insOf_put, dMeth, lstOf_rol, lstOf_put, seqOf_tup, seqOf_rol, seqOf_put, frz_tup, frz_rol, frz_int, frz_bl, frz_non, frz_str, frz_obj, startN, wipeD, List.map_cons, List.map_nil, List.length_cons, List.length_nil, Nat.zero_add, Nat.sub_self, Nat.reduceAdd, Nat.reduceSub, List.replicate_succ, List.replicate_zero, List.cons_append, List.nil_append, List.append_nil, List.getElem?_cons_zero, List.getElem?_cons_succ, List.set_cons_zero, List.set_cons_succ, Option.some.injEq, exists_eq_left', DEnds.xd, atI_0, atI_1, atI_2, atI_3, atI_4, atI_5, atI_6, atI_7, ixN_50, ixN_51, ixN_52, ixN_53, ixN_54, ixN_30, ixN_31, ixN_32, put_same, put_put, true_and, and_true, decide_true, decide_false, Bool.not_true, Bool.not_false, Bool.false_eq_true, if_true, if_false, decide_eq_true_eq, Bool.not_eq_true', decide_eq_false_iff_not, mem_one, ex_one, and_self, i_Disk, l_Disk, h_Disk_write, h_Disk_sync, h_Disk_blocks, h_Disk_synced, h_Disk_cut, h_Disk_drop, h_Disk_copy, g_Disk_rows, p_Disk_rows, k_Disk_rows, g_Disk_lasting, p_Disk_lasting, k_Disk_lasting]
      exact hq
    rw [e2]
    have hlen : (cutR rows l (.tup ks)).length = rows.length := by
      unfold cutR
      rw [hw, List.length_append, cutW_len (by show (List.map ivl ks).length = _; rw [List.length_map, hkl]), List.length_take]
      omega
    have eR : List.map tb (List.take l rows) ++ List.map tb (cutW ws (List.map ivl ks)) = List.map tb (cutR rows l (.tup ks)) := by
      unfold cutR
      rw [← List.map_append, hw]
      rfl
    simp only [dSeq, dAsg, dRet, dRetN, dDrop, dRaise, dBreak, dCont, dPar, dAug, dFor, dNext, dSetF, dAugF, dRaiseF, dIfS, dTest, dOp, dVar, dC, dCB, dCons, dNil, dCall, dAndV, dOrV, dNotV, dAndT, dOrT, dNotT, dIf, dTup, dLst, dLstV, dSl, dSlV, rdSlV, oSome, oNone, dNeg, gN, gT, gConsD, gNilD, gSubD, gFldD, dChain, dLc, dBM, isLst, iSeqD, iR1, iR2, iR3, dYes, rdAddV, rdMulV, rdSub, rdDiv, rdMod, rdPow, rdIAdd, rdCmp, rdIsN, isn_non, isn_bl, isn_int, isn_str, isn_ref, isn_tup, isn_rol, isn_obj, rdEqG, rdIx_tup, rdIx_rol, rdIx_put, rdSet, rdLen_tup, rdLen_rol, rdLen_str, rdLen_put, rdInt1, rdInt, rdInt2, rdAppend, rdExt, rdPopAt, rdMaxL, rdMinL, rdListV, rdIsB, isBlV, rdStrI, rdIntS, dFrz, dFld, insOf_put, dMeth, lstOf_rol, lstOf_put, seqOf_tup, seqOf_rol, seqOf_put, frz_tup, frz_rol, frz_int, frz_bl, frz_non, frz_str, frz_obj, startN, wipeD, List.map_cons, List.map_nil, List.length_cons, List.length_nil, Nat.zero_add, Nat.sub_self, Nat.reduceAdd, Nat.reduceSub, List.replicate_succ, List.replicate_zero, List.cons_append, List.nil_append, List.append_nil, List.getElem?_cons_zero, List.getElem?_cons_succ, List.set_cons_zero, List.set_cons_succ, Option.some.injEq, exists_eq_left', DEnds.xd, atI_0, atI_1, atI_2, atI_3, atI_4, atI_5, atI_6, atI_7, ixN_50, ixN_51, ixN_52, ixN_53, ixN_54, ixN_30, ixN_31, ixN_32, put_same, put_put, true_and, and_true, decide_true, decide_false, Bool.not_true, Bool.not_false, Bool.false_eq_true, if_true, if_false, decide_eq_true_eq, Bool.not_eq_true', decide_eq_false_iff_not, mem_one, ex_one, and_self, i_Disk, l_Disk, h_Disk_write, h_Disk_sync, h_Disk_blocks, h_Disk_synced, h_Disk_cut, h_Disk_drop, h_Disk_copy, g_Disk_rows, p_Disk_rows, k_Disk_rows, g_Disk_lasting, p_Disk_lasting, k_Disk_lasting, rdAdd]
    rw [eR]
    refine ⟨by rw [sizeLine_eq, List.length_map, List.length_map, List.length_take]; have := cutW_len (ws := ws) (ks := List.map ivl ks) (by rw [List.length_map, hkl]); omega, fun p hp => ?_⟩
    have px : p ≠ x := fun z => by rw [z, ho] at hp; cases hp
    have pr : p ≠ r := fun z => by rw [z, hr] at hp; cases hp
    simp only [dSeq, dAsg, dRet, dRetN, dDrop, dRaise, dBreak, dCont, dPar, dAug, dFor, dNext, dSetF, dAugF, dRaiseF, dIfS, dTest, dOp, dVar, dC, dCB, dCons, dNil, dCall, dAndV, dOrV, dNotV, dAndT, dOrT, dNotT, dIf, dTup, dLst, dLstV, dSl, dSlV, rdSlV, oSome, oNone, dNeg, gN, gT, gConsD, gNilD, gSubD, gFldD, dChain, dLc, dBM, isLst, iSeqD, iR1, iR2, iR3, dYes, rdAddV, rdMulV, rdSub, rdDiv, rdMod, rdPow, rdIAdd, rdCmp, rdIsN, isn_non, isn_bl, isn_int, isn_str, isn_ref, isn_tup, isn_rol, isn_obj, rdEqG, rdIx_tup, rdIx_rol, rdIx_put, rdSet, rdLen_tup, rdLen_rol, rdLen_str, rdLen_put, rdInt1, rdInt, rdInt2, rdAppend, rdExt, rdPopAt, rdMaxL, rdMinL, rdListV, rdIsB, isBlV, rdStrI, rdIntS, dFrz, dFld, insOf_put, dMeth, lstOf_rol, lstOf_put, seqOf_tup, seqOf_rol, seqOf_put, frz_tup, frz_rol, frz_int, frz_bl, frz_non, frz_str, frz_obj, startN, wipeD, List.map_cons, List.map_nil, List.length_cons, List.length_nil, Nat.zero_add, Nat.sub_self, Nat.reduceAdd, Nat.reduceSub, List.replicate_succ, List.replicate_zero, List.cons_append, List.nil_append, List.append_nil, List.getElem?_cons_zero, List.getElem?_cons_succ, List.set_cons_zero, List.set_cons_succ, Option.some.injEq, exists_eq_left', DEnds.xd, atI_0, atI_1, atI_2, atI_3, atI_4, atI_5, atI_6, atI_7, ixN_50, ixN_51, ixN_52, ixN_53, ixN_54, ixN_30, ixN_31, ixN_32, put_same, put_put, true_and, and_true, decide_true, decide_false, Bool.not_true, Bool.not_false, Bool.false_eq_true, if_true, if_false, decide_eq_true_eq, Bool.not_eq_true', decide_eq_false_iff_not, mem_one, ex_one, and_self, i_Disk, l_Disk, h_Disk_write, h_Disk_sync, h_Disk_blocks, h_Disk_synced, h_Disk_cut, h_Disk_drop, h_Disk_copy, g_Disk_rows, p_Disk_rows, k_Disk_rows, g_Disk_lasting, p_Disk_lasting, k_Disk_lasting, put_ne px.symm, ho, rdLen_ref ((put_ne px).trans put_same)]
    rw [List.length_map, hlen]
    refine h p _ ⟨⟨dx, put_same⟩, (put_ne px).trans put_same, by rw [hlen]; exact Nat.le_refl _, by rw [hlen]; exact hfew⟩ hp fun q hq n => ?_
    rw [put_ne (fun z => n (by simp [z])), put_ne (fun z => hq (by rw [z]; exact hp))]
def sp_Disk_drop (A : Ad) : SpD := fun ds S Q X => ∃ x r rows l d, ds = [.ref x, d] ∧ IsDk A S x r rows l ∧ known A S d ∧
  if within d 0 (rows.length : Nat) = true then ∀ r' T, IsDk A T x r' (rows.take (ivl d).toNat) (min l (ivl d).toNat) → S r' = none → Off S T [x] → Q .non T else X (.ref A.NoNumber) none S
theorem len_Disk_drop (A : Ad) : ∀ ds S Q X, sp_Disk_drop A ds S Q X → ds.length = 2 := by rintro _ _ _ _ ⟨_, _, _, _, _, rfl, _⟩; rfl
def r_Disk_drop (A : Ad) : DS := (dSeq (dDrop (dCall (sp_check_within A) (dCons (dVar 1) (dCons (dC (.int 0)) (dCons (dCB rdLen (dCons (dFld [A.Disk] (Str.ofString "rows") (dVar 0)) dNil)) dNil)))))
    (dSeq (dSetF [A.Disk] (Str.ofString "rows") (dVar 0) (dSl (dFld [A.Disk] (Str.ofString "rows") (dVar 0)) oNone (oSome (dVar 1))))
    (dSetF [A.Disk] (Str.ofString "lasting") (dVar 0) (dCB rdMinL (dCons (dFld [A.Disk] (Str.ofString "lasting") (dVar 0)) (dCons (dVar 1) dNil))))))
theorem rd_Disk_drop (A : Ad) : Rd (r_Disk_drop A) 2 (sp_Disk_drop A) := by
  rintro ds S Q X ⟨x, r, rows, l, d, rfl, hD, hk, h⟩
  unfold r_Disk_drop
  obtain ⟨dx, ho⟩ := hD.obj
  have hr := hD.lst
  simp only [dSeq, dAsg, dRet, dRetN, dDrop, dRaise, dBreak, dCont, dPar, dAug, dFor, dNext, dSetF, dAugF, dRaiseF, dIfS, dTest, dOp, dVar, dC, dCB, dCons, dNil, dCall, dAndV, dOrV, dNotV, dAndT, dOrT, dNotT, dIf, dTup, dLst, dLstV, dSl, dSlV, rdSlV, oSome, oNone, dNeg, gN, gT, gConsD, gNilD, gSubD, gFldD, dChain, dLc, dBM, isLst, iSeqD, iR1, iR2, iR3, dYes, rdAddV, rdMulV, rdSub, rdDiv, rdMod, rdPow, rdIAdd, rdCmp, rdIsN, isn_non, isn_bl, isn_int, isn_str, isn_ref, isn_tup, isn_rol, isn_obj, rdEqG, rdIx_tup, rdIx_rol, rdIx_put, rdSet, rdLen_tup, rdLen_rol, rdLen_str, rdLen_put, rdInt1, rdInt, rdInt2, rdAppend, rdExt, rdPopAt, rdMaxL, rdMinL, rdListV, rdIsB, isBlV, rdStrI, rdIntS, dFrz, dFld, insOf_put, dMeth, lstOf_rol, lstOf_put, seqOf_tup, seqOf_rol, seqOf_put, frz_tup, frz_rol, frz_int, frz_bl, frz_non, frz_str, frz_obj, startN, wipeD, List.map_cons, List.map_nil, List.length_cons, List.length_nil, Nat.zero_add, Nat.sub_self, Nat.reduceAdd, Nat.reduceSub, List.replicate_succ, List.replicate_zero, List.cons_append, List.nil_append, List.append_nil, List.getElem?_cons_zero, List.getElem?_cons_succ, List.set_cons_zero, List.set_cons_succ, Option.some.injEq, exists_eq_left', DEnds.xd, atI_0, atI_1, atI_2, atI_3, atI_4, atI_5, atI_6, atI_7, ixN_50, ixN_51, ixN_52, ixN_53, ixN_54, ixN_30, ixN_31, ixN_32, put_same, put_put, true_and, and_true, decide_true, decide_false, Bool.not_true, Bool.not_false, Bool.false_eq_true, if_true, if_false, decide_eq_true_eq, Bool.not_eq_true', decide_eq_false_iff_not, mem_one, ex_one, and_self, i_Disk, l_Disk, h_Disk_write, h_Disk_sync, h_Disk_blocks, h_Disk_synced, h_Disk_cut, h_Disk_drop, h_Disk_copy, g_Disk_rows, p_Disk_rows, k_Disk_rows, g_Disk_lasting, p_Disk_lasting, k_Disk_lasting, insOf_ref ho, rdLen_ref hr]
  rw [List.length_map]
  refine ⟨_, _, _, rfl, hk, ?_⟩
  cases e : within d 0 (rows.length : Nat) with
  | false =>
    rw [e, if_neg (by decide)] at h
    rw [if_neg (by decide)]
    exact h
  | true =>
    rw [e, if_pos rfl] at h
    rw [if_pos rfl]
    obtain ⟨i, rfl, i0, i1⟩ := within_i.mp e
    obtain ⟨n, rfl⟩ := Int.eq_ofNat_of_zero_le i0
    have en : (ivl (Dv.int (n : Int))).toNat = n := Int.toNat_natCast n
    rw [en] at h
    simp only [dSeq, dAsg, dRet, dRetN, dDrop, dRaise, dBreak, dCont, dPar, dAug, dFor, dNext, dSetF, dAugF, dRaiseF, dIfS, dTest, dOp, dVar, dC, dCB, dCons, dNil, dCall, dAndV, dOrV, dNotV, dAndT, dOrT, dNotT, dIf, dTup, dLst, dLstV, dSl, dSlV, rdSlV, oSome, oNone, dNeg, gN, gT, gConsD, gNilD, gSubD, gFldD, dChain, dLc, dBM, isLst, iSeqD, iR1, iR2, iR3, dYes, rdAddV, rdMulV, rdSub, rdDiv, rdMod, rdPow, rdIAdd, rdCmp, rdIsN, isn_non, isn_bl, isn_int, isn_str, isn_ref, isn_tup, isn_rol, isn_obj, rdEqG, rdIx_tup, rdIx_rol, rdIx_put, rdSet, rdLen_tup, rdLen_rol, rdLen_str, rdLen_put, rdInt1, rdInt, rdInt2, rdAppend, rdExt, rdPopAt, rdMaxL, rdMinL, rdListV, rdIsB, isBlV, rdStrI, rdIntS, dFrz, dFld, insOf_put, dMeth, lstOf_rol, lstOf_put, seqOf_tup, seqOf_rol, seqOf_put, frz_tup, frz_rol, frz_int, frz_bl, frz_non, frz_str, frz_obj, startN, wipeD, List.map_cons, List.map_nil, List.length_cons, List.length_nil, Nat.zero_add, Nat.sub_self, Nat.reduceAdd, Nat.reduceSub, List.replicate_succ, List.replicate_zero, List.cons_append, List.nil_append, List.append_nil, List.getElem?_cons_zero, List.getElem?_cons_succ, List.set_cons_zero, List.set_cons_succ, Option.some.injEq, exists_eq_left', DEnds.xd, atI_0, atI_1, atI_2, atI_3, atI_4, atI_5, atI_6, atI_7, ixN_50, ixN_51, ixN_52, ixN_53, ixN_54, ixN_30, ixN_31, ixN_32, put_same, put_put, true_and, and_true, decide_true, decide_false, Bool.not_true, Bool.not_false, Bool.false_eq_true, if_true, if_false, decide_eq_true_eq, Bool.not_eq_true', decide_eq_false_iff_not, mem_one, ex_one, and_self, i_Disk, l_Disk, h_Disk_write, h_Disk_sync, h_Disk_blocks, h_Disk_synced, h_Disk_cut, h_Disk_drop, h_Disk_copy, g_Disk_rows, p_Disk_rows, k_Disk_rows, g_Disk_lasting, p_Disk_lasting, k_Disk_lasting, insOf_ref ho]
    unfold VD.rdSl
    dsimp only
    rw [hr]
    dsimp only
    rw [cut_take2]
    intro p hp
    have px : p ≠ x := fun z => by rw [z, ho] at hp; cases hp
    simp only [dSeq, dAsg, dRet, dRetN, dDrop, dRaise, dBreak, dCont, dPar, dAug, dFor, dNext, dSetF, dAugF, dRaiseF, dIfS, dTest, dOp, dVar, dC, dCB, dCons, dNil, dCall, dAndV, dOrV, dNotV, dAndT, dOrT, dNotT, dIf, dTup, dLst, dLstV, dSl, dSlV, rdSlV, oSome, oNone, dNeg, gN, gT, gConsD, gNilD, gSubD, gFldD, dChain, dLc, dBM, isLst, iSeqD, iR1, iR2, iR3, dYes, rdAddV, rdMulV, rdSub, rdDiv, rdMod, rdPow, rdIAdd, rdCmp, rdIsN, isn_non, isn_bl, isn_int, isn_str, isn_ref, isn_tup, isn_rol, isn_obj, rdEqG, rdIx_tup, rdIx_rol, rdIx_put, rdSet, rdLen_tup, rdLen_rol, rdLen_str, rdLen_put, rdInt1, rdInt, rdInt2, rdAppend, rdExt, rdPopAt, rdMaxL, rdMinL, rdListV, rdIsB, isBlV, rdStrI, rdIntS, dFrz, dFld, insOf_put, dMeth, lstOf_rol, lstOf_put, seqOf_tup, seqOf_rol, seqOf_put, frz_tup, frz_rol, frz_int, frz_bl, frz_non, frz_str, frz_obj, startN, wipeD, List.map_cons, List.map_nil, List.length_cons, List.length_nil, Nat.zero_add, Nat.sub_self, Nat.reduceAdd, Nat.reduceSub, List.replicate_succ, List.replicate_zero, List.cons_append, List.nil_append, List.append_nil, List.getElem?_cons_zero, List.getElem?_cons_succ, List.set_cons_zero, List.set_cons_succ, Option.some.injEq, exists_eq_left', DEnds.xd, atI_0, atI_1, atI_2, atI_3, atI_4, atI_5, atI_6, atI_7, ixN_50, ixN_51, ixN_52, ixN_53, ixN_54, ixN_30, ixN_31, ixN_32, put_same, put_put, true_and, and_true, decide_true, decide_false, Bool.not_true, Bool.not_false, Bool.false_eq_true, if_true, if_false, decide_eq_true_eq, Bool.not_eq_true', decide_eq_false_iff_not, mem_one, ex_one, and_self, i_Disk, l_Disk, h_Disk_write, h_Disk_sync, h_Disk_blocks, h_Disk_synced, h_Disk_cut, h_Disk_drop, h_Disk_copy, g_Disk_rows, p_Disk_rows, k_Disk_rows, g_Disk_lasting, p_Disk_lasting, k_Disk_lasting, put_ne px.symm, ho]
    have em : (if (n : Int) < (l : Nat) then (n : Int) else (l : Nat)) = ((min l n : Nat) : Int) := by split <;> omega
    rw [em]
    refine h p _ ⟨⟨dx, put_same⟩, (put_ne px).trans put_same, ?_, ?_⟩ hp fun q hq m => ?_
    · rw [List.length_take]
      have := hD.le
      omega
    · rw [List.length_take]
      have := hD.few
      omega
    · rw [put_ne (fun z => m (by simp [z])), put_ne (fun z => hq (by rw [z]; exact hp))]
def sp_Disk_copy (A : Ad) : SpD := fun ds S Q _ => ∃ x r rows l, ds = [.ref x] ∧ IsDk A S x r rows l ∧ ∀ y r' T, IsDk A T y r' rows l → S y = none → S r' = none → VD.Sub S T → Q (.ref y) T
theorem len_Disk_copy (A : Ad) : ∀ ds S Q X, sp_Disk_copy A ds S Q X → ds.length = 1 := by rintro _ _ _ _ ⟨_, _, _, _, rfl, _⟩; rfl
def r_Disk_copy (A : Ad) : DS := (dSeq (dAsg (dCall (sp_Disk A) dNil) (gN 1))
    (dSeq (dSetF [A.Disk] (Str.ofString "rows") (dVar 1) (dCB rdList (dCons (dFld [A.Disk] (Str.ofString "rows") (dVar 0)) dNil)))
    (dSeq (dSetF [A.Disk] (Str.ofString "lasting") (dVar 1) (dFld [A.Disk] (Str.ofString "lasting") (dVar 0)))
    (dRet (dVar 1)))))
theorem rd_Disk_copy (A : Ad) : Rd (r_Disk_copy A) 2 (sp_Disk_copy A) := by
  rintro ds S Q X ⟨x, r, rows, l, rfl, hD, h⟩
  unfold r_Disk_copy
  simp only [dSeq, dAsg, dRet, dRetN, dDrop, dRaise, dBreak, dCont, dPar, dAug, dFor, dNext, dSetF, dAugF, dRaiseF, dIfS, dTest, dOp, dVar, dC, dCB, dCons, dNil, dCall, dAndV, dOrV, dNotV, dAndT, dOrT, dNotT, dIf, dTup, dLst, dLstV, dSl, dSlV, rdSlV, oSome, oNone, dNeg, gN, gT, gConsD, gNilD, gSubD, gFldD, dChain, dLc, dBM, isLst, iSeqD, iR1, iR2, iR3, dYes, rdAddV, rdMulV, rdSub, rdDiv, rdMod, rdPow, rdIAdd, rdCmp, rdIsN, isn_non, isn_bl, isn_int, isn_str, isn_ref, isn_tup, isn_rol, isn_obj, rdEqG, rdIx_tup, rdIx_rol, rdIx_put, rdSet, rdLen_tup, rdLen_rol, rdLen_str, rdLen_put, rdInt1, rdInt, rdInt2, rdAppend, rdExt, rdPopAt, rdMaxL, rdMinL, rdListV, rdIsB, isBlV, rdStrI, rdIntS, dFrz, dFld, insOf_put, dMeth, lstOf_rol, lstOf_put, seqOf_tup, seqOf_rol, seqOf_put, frz_tup, frz_rol, frz_int, frz_bl, frz_non, frz_str, frz_obj, startN, wipeD, List.map_cons, List.map_nil, List.length_cons, List.length_nil, Nat.zero_add, Nat.sub_self, Nat.reduceAdd, Nat.reduceSub, List.replicate_succ, List.replicate_zero, List.cons_append, List.nil_append, List.append_nil, List.getElem?_cons_zero, List.getElem?_cons_succ, List.set_cons_zero, List.set_cons_succ, Option.some.injEq, exists_eq_left', DEnds.xd, atI_0, atI_1, atI_2, atI_3, atI_4, atI_5, atI_6, atI_7, ixN_50, ixN_51, ixN_52, ixN_53, ixN_54, ixN_30, ixN_31, ixN_32, put_same, put_put, true_and, and_true, decide_true, decide_false, Bool.not_true, Bool.not_false, Bool.false_eq_true, if_true, if_false, decide_eq_true_eq, Bool.not_eq_true', decide_eq_false_iff_not, mem_one, ex_one, and_self, i_Disk, l_Disk, h_Disk_write, h_Disk_sync, h_Disk_blocks, h_Disk_synced, h_Disk_cut, h_Disk_drop, h_Disk_copy, g_Disk_rows, p_Disk_rows, k_Disk_rows, g_Disk_lasting, p_Disk_lasting, k_Disk_lasting]
  refine ⟨rfl, fun y r0 T hy ey er sT => ?_⟩
  obtain ⟨dx, ho⟩ := hD.obj
  have ho := sT _ _ ho
  have hr := sT _ _ hD.lst
  obtain ⟨dy, hyo⟩ := hy.obj
  have xy : x ≠ y := fun z => by
    obtain ⟨_, ho⟩ := hD.obj
    rw [z, ey] at ho
    cases ho
  simp only [dSeq, dAsg, dRet, dRetN, dDrop, dRaise, dBreak, dCont, dPar, dAug, dFor, dNext, dSetF, dAugF, dRaiseF, dIfS, dTest, dOp, dVar, dC, dCB, dCons, dNil, dCall, dAndV, dOrV, dNotV, dAndT, dOrT, dNotT, dIf, dTup, dLst, dLstV, dSl, dSlV, rdSlV, oSome, oNone, dNeg, gN, gT, gConsD, gNilD, gSubD, gFldD, dChain, dLc, dBM, isLst, iSeqD, iR1, iR2, iR3, dYes, rdAddV, rdMulV, rdSub, rdDiv, rdMod, rdPow, rdIAdd, rdCmp, rdIsN, isn_non, isn_bl, isn_int, isn_str, isn_ref, isn_tup, isn_rol, isn_obj, rdEqG, rdIx_tup, rdIx_rol, rdIx_put, rdSet, rdLen_tup, rdLen_rol, rdLen_str, rdLen_put, rdInt1, rdInt, rdInt2, rdAppend, rdExt, rdPopAt, rdMaxL, rdMinL, rdListV, rdIsB, isBlV, rdStrI, rdIntS, dFrz, dFld, insOf_put, dMeth, lstOf_rol, lstOf_put, seqOf_tup, seqOf_rol, seqOf_put, frz_tup, frz_rol, frz_int, frz_bl, frz_non, frz_str, frz_obj, startN, wipeD, List.map_cons, List.map_nil, List.length_cons, List.length_nil, Nat.zero_add, Nat.sub_self, Nat.reduceAdd, Nat.reduceSub, List.replicate_succ, List.replicate_zero, List.cons_append, List.nil_append, List.append_nil, List.getElem?_cons_zero, List.getElem?_cons_succ, List.set_cons_zero, List.set_cons_succ, Option.some.injEq, exists_eq_left', DEnds.xd, atI_0, atI_1, atI_2, atI_3, atI_4, atI_5, atI_6, atI_7, ixN_50, ixN_51, ixN_52, ixN_53, ixN_54, ixN_30, ixN_31, ixN_32, put_same, put_put, true_and, and_true, decide_true, decide_false, Bool.not_true, Bool.not_false, Bool.false_eq_true, if_true, if_false, decide_eq_true_eq, Bool.not_eq_true', decide_eq_false_iff_not, mem_one, ex_one, and_self, i_Disk, l_Disk, h_Disk_write, h_Disk_sync, h_Disk_blocks, h_Disk_synced, h_Disk_cut, h_Disk_drop, h_Disk_copy, g_Disk_rows, p_Disk_rows, k_Disk_rows, g_Disk_lasting, p_Disk_lasting, k_Disk_lasting, insOf_ref ho]
  unfold rdList
  dsimp only
  rw [seqOf_ref hr]
  intro p hp
  have py : p ≠ y := fun z => by rw [z, hyo] at hp; cases hp
  have px : p ≠ x := fun z => by rw [z, ho] at hp; cases hp
  simp only [dSeq, dAsg, dRet, dRetN, dDrop, dRaise, dBreak, dCont, dPar, dAug, dFor, dNext, dSetF, dAugF, dRaiseF, dIfS, dTest, dOp, dVar, dC, dCB, dCons, dNil, dCall, dAndV, dOrV, dNotV, dAndT, dOrT, dNotT, dIf, dTup, dLst, dLstV, dSl, dSlV, rdSlV, oSome, oNone, dNeg, gN, gT, gConsD, gNilD, gSubD, gFldD, dChain, dLc, dBM, isLst, iSeqD, iR1, iR2, iR3, dYes, rdAddV, rdMulV, rdSub, rdDiv, rdMod, rdPow, rdIAdd, rdCmp, rdIsN, isn_non, isn_bl, isn_int, isn_str, isn_ref, isn_tup, isn_rol, isn_obj, rdEqG, rdIx_tup, rdIx_rol, rdIx_put, rdSet, rdLen_tup, rdLen_rol, rdLen_str, rdLen_put, rdInt1, rdInt, rdInt2, rdAppend, rdExt, rdPopAt, rdMaxL, rdMinL, rdListV, rdIsB, isBlV, rdStrI, rdIntS, dFrz, dFld, insOf_put, dMeth, lstOf_rol, lstOf_put, seqOf_tup, seqOf_rol, seqOf_put, frz_tup, frz_rol, frz_int, frz_bl, frz_non, frz_str, frz_obj, startN, wipeD, List.map_cons, List.map_nil, List.length_cons, List.length_nil, Nat.zero_add, Nat.sub_self, Nat.reduceAdd, Nat.reduceSub, List.replicate_succ, List.replicate_zero, List.cons_append, List.nil_append, List.append_nil, List.getElem?_cons_zero, List.getElem?_cons_succ, List.set_cons_zero, List.set_cons_succ, Option.some.injEq, exists_eq_left', DEnds.xd, atI_0, atI_1, atI_2, atI_3, atI_4, atI_5, atI_6, atI_7, ixN_50, ixN_51, ixN_52, ixN_53, ixN_54, ixN_30, ixN_31, ixN_32, put_same, put_put, true_and, and_true, decide_true, decide_false, Bool.not_true, Bool.not_false, Bool.false_eq_true, if_true, if_false, decide_eq_true_eq, Bool.not_eq_true', decide_eq_false_iff_not, mem_one, ex_one, and_self, i_Disk, l_Disk, h_Disk_write, h_Disk_sync, h_Disk_blocks, h_Disk_synced, h_Disk_cut, h_Disk_drop, h_Disk_copy, g_Disk_rows, p_Disk_rows, k_Disk_rows, g_Disk_lasting, p_Disk_lasting, k_Disk_lasting, put_ne py.symm, hyo, insOf_ref ((put_ne xy).trans ((put_ne px.symm).trans ho))]
  have pS : S p = none := by
    cases e : S p with
    | none => rfl
    | some m => rw [sT _ _ e] at hp; cases hp
  refine h y p _ ⟨⟨dy, put_same⟩, (put_ne py).trans put_same, hD.le, hD.few⟩ ey pS fun q m e => ?_
  rw [put_ne (fun z => by rw [z, ey] at e; cases e), put_ne (fun z => by rw [z, pS] at e; cases e)]
  exact sT _ _ e
end Lw

--CLS Disk
namespace Lw
open PySem PySem.Spec PyProof.Rows L2 VD
structure Moved (A : Ad) (S T : Sto) (x r r' : Addr) (rows : List (List Int)) (l : Nat) : Prop where
  dk : IsDk A T x r' rows l
  new : r' = r ∨ S r' = none
  off : Off S T [x, r]
/-- a refusal's word is found -/
theorem flag_row {S : Sto} {Q : QD} (q : Q (.int 0) S) : rdIdxL (.rol [.bl true, .bl false, .bl false]) [.bl true] S Q := by
  unfold rdIdxL
  dsimp only
  exact ⟨rfl, rfl, 0, .bl true, rfl, by decide, fun m hm => by omega, q⟩
theorem flag_cut {S : Sto} {Q : QD} (q : Q (.int 1) S) : rdIdxL (.rol [.bl false, .bl true, .bl false]) [.bl true] S Q := by
  unfold rdIdxL
  dsimp only
  refine ⟨rfl, rfl, 1, .bl true, rfl, by decide, fun m hm w e => ?_, q⟩
  obtain rfl : m = 0 := by omega
  cases e
  decide
theorem flag_num {S : Sto} {Q : QD} (q : Q (.int 2) S) : rdIdxL (.rol [.bl false, .bl false, .bl true]) [.bl true] S Q := by
  unfold rdIdxL
  dsimp only
  refine ⟨rfl, rfl, 2, .bl true, rfl, by decide, fun m hm w e => ?_, q⟩
  obtain rfl | rfl : m = 0 ∨ m = 1 := by omega
  · cases e; decide
  · cases e; decide
def letD (d : Dv) : Dv := .tup [.str (Str.ofString "let"), d]
def noD (z : Str) : Dv := .tup [.str z, .non]
def sp__law_word (A : Ad) : SpD := fun ds S Q _ => ∃ x r rows l w d, ds = [.ref x, .int w, d] ∧ IsDk A S x r rows l ∧ knownL A S d ∧ rows.length < 1000 ∧
  ((w = 0 ∧ if isRow d = true then ∀ T r', Moved A S T x r r' (rows ++ [rowI d]) l → Q (letD (.int (rows.length : Nat))) T else Q (noD (Str.ofString "row")) S) ∨
  (w = 1 ∧ if cutOk (rows.drop l) d = true then ∀ T r', Moved A S T x r r' (cutR rows l d) rows.length → Q (letD .non) T else Q (noD (Str.ofString "cut")) S) ∨
  (w = 2 ∧ if within d 0 (rows.length : Nat) = true then ∀ T r', Moved A S T x r r' (rows.take (ivl d).toNat) (min l (ivl d).toNat) → Q (letD .non) T else Q (noD (Str.ofString "number")) S))
theorem len__law_word (A : Ad) : ∀ ds S Q X, sp__law_word A ds S Q X → ds.length = 3 := by rintro _ _ _ _ ⟨_, _, _, _, _, _, rfl, _⟩; rfl
def r__law_word (A : Ad) : DS := (dSeq (dAsg (dTup (dCons (dC (.str (Str.ofString "other"))) (dCons (dC .non) dNil))) (gN 3))
    (dSeq (dTake (dIfS (dTest (dOp rdEq (dVar 1) (dC (.int 0)))) (dAsg (dTup (dCons (dC (.str (Str.ofString "let"))) (dCons (dMeth [(A.Disk, (sp_Disk_write A))] (Str.ofString "write") (dVar 0) (dCons (dVar 2) dNil)) dNil))) (gN 3)) (dIfS (dTest (dOp rdEq (dVar 1) (dC (.int 1)))) (dAsg (dTup (dCons (dC (.str (Str.ofString "let"))) (dCons (dMeth [(A.Disk, (sp_Disk_cut A))] (Str.ofString "cut") (dVar 0) (dCons (dVar 2) dNil)) dNil))) (gN 3)) (dAsg (dTup (dCons (dC (.str (Str.ofString "let"))) (dCons (dMeth [(A.Disk, (sp_Disk_drop A))] (Str.ofString "drop") (dVar 0) (dCons (dVar 2) dNil)) dNil))) (gN 3)))) 4 [(.ref A.NoNumber, true), (.ref A.NoRow, true), (.ref A.NoCut, true)] fun ea ecls eda => (dSeq (dAsg (dLstV (dCons (dCB (rdIsE ea ecls eda [(A.NoNumber, .ref A.NoRow, false), (A.NoRow, .ref A.NoRow, true), (A.NoCut, .ref A.NoRow, false)]) (dCons (dVar 4) (dCons (dC (.ref A.NoRow)) dNil))) (dCons (dCB (rdIsE ea ecls eda [(A.NoNumber, .ref A.NoCut, false), (A.NoRow, .ref A.NoCut, false), (A.NoCut, .ref A.NoCut, true)]) (dCons (dVar 4) (dCons (dC (.ref A.NoCut)) dNil))) (dCons (dCB (rdIsE ea ecls eda [(A.NoNumber, .ref A.NoNumber, true), (A.NoRow, .ref A.NoNumber, false), (A.NoCut, .ref A.NoNumber, false)]) (dCons (dVar 4) (dCons (dC (.ref A.NoNumber)) dNil))) dNil)))) (gN 5))
    (dIfS (dAndT (dTest (dOp rdEq (dBML rdCntB (dVar 5) (dCons (dC (.bl true)) dNil)) (dC (.int 1)))) (dTest (dCB (rdIsE ea ecls eda [(A.NoNumber, .type "ValueError", true), (A.NoRow, .type "ValueError", true), (A.NoCut, .type "ValueError", true)]) (dCons (dVar 4) (dCons (dC (.ty "ValueError")) dNil))))) (dAsg (dTup (dCons (dOp rdIx (dLstV (dCons (dC (.str (Str.ofString "row"))) (dCons (dC (.str (Str.ofString "cut"))) (dCons (dC (.str (Str.ofString "number"))) dNil)))) (dBML rdIdxL (dVar 5) (dCons (dC (.bl true)) dNil))) (dCons (dC .non) dNil))) (gN 3)) dNext)))
    (dRet (dVar 3))))
theorem rd__law_word (A : Ad) : Rd (r__law_word A) 6 (sp__law_word A) := by
  rintro ds S Q X ⟨x, r, rows, l, w, d, rfl, hD, hk, hf, h⟩
  unfold r__law_word dTake
  obtain ⟨dx, ho⟩ := hD.obj
  simp only [dSeq, dAsg, dRet, dRetN, dDrop, dRaise, dBreak, dCont, dPar, dAug, dFor, dNext, dSetF, dAugF, dRaiseF, dIfS, dTest, dOp, dVar, dC, dCB, dCons, dNil, dCall, dAndV, dOrV, dNotV, dAndT, dOrT, dNotT, dIf, dTup, dLst, dLstV, dSl, dSlV, rdSlV, oSome, oNone, dNeg, gN, gT, gConsD, gNilD, gSubD, gFldD, dChain, dLc, dBM, isLst, iSeqD, iR1, iR2, iR3, dYes, rdAddV, rdMulV, rdSub, rdDiv, rdMod, rdPow, rdIAdd, rdCmp, rdIsN, isn_non, isn_bl, isn_int, isn_str, isn_ref, isn_tup, isn_rol, isn_obj, rdEqG, rdIx_tup, rdIx_rol, rdIx_put, rdSet, rdLen_tup, rdLen_rol, rdLen_str, rdLen_put, rdInt1, rdInt, rdInt2, rdAppend, rdExt, rdPopAt, rdMaxL, rdMinL, rdListV, rdIsB, isBlV, rdStrI, rdIntS, dFrz, dFld, insOf_put, dMeth, lstOf_rol, lstOf_put, seqOf_tup, seqOf_rol, seqOf_put, frz_tup, frz_rol, frz_int, frz_bl, frz_non, frz_str, frz_obj, startN, wipeD, List.map_cons, List.map_nil, List.length_cons, List.length_nil, Nat.zero_add, Nat.sub_self, Nat.reduceAdd, Nat.reduceSub, List.replicate_succ, List.replicate_zero, List.cons_append, List.nil_append, List.append_nil, List.getElem?_cons_zero, List.getElem?_cons_succ, List.set_cons_zero, List.set_cons_succ, Option.some.injEq, exists_eq_left', DEnds.xd, atI_0, atI_1, atI_2, atI_3, atI_4, atI_5, atI_6, atI_7, ixN_50, ixN_51, ixN_52, ixN_53, ixN_54, ixN_30, ixN_31, ixN_32, put_same, put_put, true_and, and_true, decide_true, decide_false, Bool.not_true, Bool.not_false, Bool.false_eq_true, if_true, if_false, decide_eq_true_eq, Bool.not_eq_true', decide_eq_false_iff_not, mem_one, ex_one, and_self, i_Disk, l_Disk, h_Disk_write, h_Disk_sync, h_Disk_blocks, h_Disk_synced, h_Disk_cut, h_Disk_drop, h_Disk_copy, g_Disk_rows, p_Disk_rows, k_Disk_rows, g_Disk_lasting, p_Disk_lasting, k_Disk_lasting, insOf_ref ho]
  refine ⟨by decide, ?_⟩
  rcases h with ⟨rfl, h⟩ | ⟨rfl, h⟩ | ⟨rfl, h⟩
  · simp only [dSeq, dAsg, dRet, dRetN, dDrop, dRaise, dBreak, dCont, dPar, dAug, dFor, dNext, dSetF, dAugF, dRaiseF, dIfS, dTest, dOp, dVar, dC, dCB, dCons, dNil, dCall, dAndV, dOrV, dNotV, dAndT, dOrT, dNotT, dIf, dTup, dLst, dLstV, dSl, dSlV, rdSlV, oSome, oNone, dNeg, gN, gT, gConsD, gNilD, gSubD, gFldD, dChain, dLc, dBM, isLst, iSeqD, iR1, iR2, iR3, dYes, rdAddV, rdMulV, rdSub, rdDiv, rdMod, rdPow, rdIAdd, rdCmp, rdIsN, isn_non, isn_bl, isn_int, isn_str, isn_ref, isn_tup, isn_rol, isn_obj, rdEqG, rdIx_tup, rdIx_rol, rdIx_put, rdSet, rdLen_tup, rdLen_rol, rdLen_str, rdLen_put, rdInt1, rdInt, rdInt2, rdAppend, rdExt, rdPopAt, rdMaxL, rdMinL, rdListV, rdIsB, isBlV, rdStrI, rdIntS, dFrz, dFld, insOf_put, dMeth, lstOf_rol, lstOf_put, seqOf_tup, seqOf_rol, seqOf_put, frz_tup, frz_rol, frz_int, frz_bl, frz_non, frz_str, frz_obj, startN, wipeD, List.map_cons, List.map_nil, List.length_cons, List.length_nil, Nat.zero_add, Nat.sub_self, Nat.reduceAdd, Nat.reduceSub, List.replicate_succ, List.replicate_zero, List.cons_append, List.nil_append, List.append_nil, List.getElem?_cons_zero, List.getElem?_cons_succ, List.set_cons_zero, List.set_cons_succ, Option.some.injEq, exists_eq_left', DEnds.xd, atI_0, atI_1, atI_2, atI_3, atI_4, atI_5, atI_6, atI_7, ixN_50, ixN_51, ixN_52, ixN_53, ixN_54, ixN_30, ixN_31, ixN_32, put_same, put_put, true_and, and_true, decide_true, decide_false, Bool.not_true, Bool.not_false, Bool.false_eq_true, if_true, if_false, decide_eq_true_eq, Bool.not_eq_true', decide_eq_false_iff_not, mem_one, ex_one, and_self, i_Disk, l_Disk, h_Disk_write, h_Disk_sync, h_Disk_blocks, h_Disk_synced, h_Disk_cut, h_Disk_drop, h_Disk_copy, g_Disk_rows, p_Disk_rows, k_Disk_rows, g_Disk_lasting, p_Disk_lasting, k_Disk_lasting]
    refine ⟨x, r, rows, l, d, rfl, hD, hf, hk, ?_⟩
    cases e : isRow d with
    | true =>
      rw [e, if_pos rfl] at h
      rw [if_pos rfl]
      intro T hT hO
      exact ⟨by decide, h T r ⟨hT, .inl rfl, hO.wide fun p hp => by simp at hp; simp [hp]⟩⟩
    | false =>
      rw [e, if_neg (by decide)] at h
      rw [if_neg (by decide)]
      unfold exTake
      refine ⟨by simp, fun ea he => ?_⟩
      simp only [dSeq, dAsg, dRet, dRetN, dDrop, dRaise, dBreak, dCont, dPar, dAug, dFor, dNext, dSetF, dAugF, dRaiseF, dIfS, dTest, dOp, dVar, dC, dCB, dCons, dNil, dCall, dAndV, dOrV, dNotV, dAndT, dOrT, dNotT, dIf, dTup, dLst, dLstV, dSl, dSlV, rdSlV, oSome, oNone, dNeg, gN, gT, gConsD, gNilD, gSubD, gFldD, dChain, dLc, dBM, isLst, iSeqD, iR1, iR2, iR3, dYes, rdAddV, rdMulV, rdSub, rdDiv, rdMod, rdPow, rdIAdd, rdCmp, rdIsN, isn_non, isn_bl, isn_int, isn_str, isn_ref, isn_tup, isn_rol, isn_obj, rdEqG, rdIx_tup, rdIx_rol, rdIx_put, rdSet, rdLen_tup, rdLen_rol, rdLen_str, rdLen_put, rdInt1, rdInt, rdInt2, rdAppend, rdExt, rdPopAt, rdMaxL, rdMinL, rdListV, rdIsB, isBlV, rdStrI, rdIntS, dFrz, dFld, insOf_put, dMeth, lstOf_rol, lstOf_put, seqOf_tup, seqOf_rol, seqOf_put, frz_tup, frz_rol, frz_int, frz_bl, frz_non, frz_str, frz_obj, startN, wipeD, List.map_cons, List.map_nil, List.length_cons, List.length_nil, Nat.zero_add, Nat.sub_self, Nat.reduceAdd, Nat.reduceSub, List.replicate_succ, List.replicate_zero, List.cons_append, List.nil_append, List.append_nil, List.getElem?_cons_zero, List.getElem?_cons_succ, List.set_cons_zero, List.set_cons_succ, Option.some.injEq, exists_eq_left', DEnds.xd, atI_0, atI_1, atI_2, atI_3, atI_4, atI_5, atI_6, atI_7, ixN_50, ixN_51, ixN_52, ixN_53, ixN_54, ixN_30, ixN_31, ixN_32, put_same, put_put, true_and, and_true, decide_true, decide_false, Bool.not_true, Bool.not_false, Bool.false_eq_true, if_true, if_false, decide_eq_true_eq, Bool.not_eq_true', decide_eq_false_iff_not, mem_one, ex_one, and_self, i_Disk, l_Disk, h_Disk_write, h_Disk_sync, h_Disk_blocks, h_Disk_synced, h_Disk_cut, h_Disk_drop, h_Disk_copy, g_Disk_rows, p_Disk_rows, k_Disk_rows, g_Disk_lasting, p_Disk_lasting, k_Disk_lasting, rdIsE, dBML, isLk, rdCntB, clsV]
      refine ⟨_, _, true, rfl, rfl, by simp, _, _, false, rfl, rfl, by simp, _, _, false, rfl, rfl, by simp, slK, [true, false, false], rfl, ?_⟩
      rw [if_pos (by decide)]
      refine ⟨_, _, true, rfl, rfl, by simp, ?_⟩
      simp only [dSeq, dAsg, dRet, dRetN, dDrop, dRaise, dBreak, dCont, dPar, dAug, dFor, dNext, dSetF, dAugF, dRaiseF, dIfS, dTest, dOp, dVar, dC, dCB, dCons, dNil, dCall, dAndV, dOrV, dNotV, dAndT, dOrT, dNotT, dIf, dTup, dLst, dLstV, dSl, dSlV, rdSlV, oSome, oNone, dNeg, gN, gT, gConsD, gNilD, gSubD, gFldD, dChain, dLc, dBM, isLst, iSeqD, iR1, iR2, iR3, dYes, rdAddV, rdMulV, rdSub, rdDiv, rdMod, rdPow, rdIAdd, rdCmp, rdIsN, isn_non, isn_bl, isn_int, isn_str, isn_ref, isn_tup, isn_rol, isn_obj, rdEqG, rdIx_tup, rdIx_rol, rdIx_put, rdSet, rdLen_tup, rdLen_rol, rdLen_str, rdLen_put, rdInt1, rdInt, rdInt2, rdAppend, rdExt, rdPopAt, rdMaxL, rdMinL, rdListV, rdIsB, isBlV, rdStrI, rdIntS, dFrz, dFld, insOf_put, dMeth, lstOf_rol, lstOf_put, seqOf_tup, seqOf_rol, seqOf_put, frz_tup, frz_rol, frz_int, frz_bl, frz_non, frz_str, frz_obj, startN, wipeD, List.map_cons, List.map_nil, List.length_cons, List.length_nil, Nat.zero_add, Nat.sub_self, Nat.reduceAdd, Nat.reduceSub, List.replicate_succ, List.replicate_zero, List.cons_append, List.nil_append, List.append_nil, List.getElem?_cons_zero, List.getElem?_cons_succ, List.set_cons_zero, List.set_cons_succ, Option.some.injEq, exists_eq_left', DEnds.xd, atI_0, atI_1, atI_2, atI_3, atI_4, atI_5, atI_6, atI_7, ixN_50, ixN_51, ixN_52, ixN_53, ixN_54, ixN_30, ixN_31, ixN_32, put_same, put_put, true_and, and_true, decide_true, decide_false, Bool.not_true, Bool.not_false, Bool.false_eq_true, if_true, if_false, decide_eq_true_eq, Bool.not_eq_true', decide_eq_false_iff_not, mem_one, ex_one, and_self, i_Disk, l_Disk, h_Disk_write, h_Disk_sync, h_Disk_blocks, h_Disk_synced, h_Disk_cut, h_Disk_drop, h_Disk_copy, g_Disk_rows, p_Disk_rows, k_Disk_rows, g_Disk_lasting, p_Disk_lasting, k_Disk_lasting]
      refine ⟨slK, flag_row ?_⟩
      simp only [dSeq, dAsg, dRet, dRetN, dDrop, dRaise, dBreak, dCont, dPar, dAug, dFor, dNext, dSetF, dAugF, dRaiseF, dIfS, dTest, dOp, dVar, dC, dCB, dCons, dNil, dCall, dAndV, dOrV, dNotV, dAndT, dOrT, dNotT, dIf, dTup, dLst, dLstV, dSl, dSlV, rdSlV, oSome, oNone, dNeg, gN, gT, gConsD, gNilD, gSubD, gFldD, dChain, dLc, dBM, isLst, iSeqD, iR1, iR2, iR3, dYes, rdAddV, rdMulV, rdSub, rdDiv, rdMod, rdPow, rdIAdd, rdCmp, rdIsN, isn_non, isn_bl, isn_int, isn_str, isn_ref, isn_tup, isn_rol, isn_obj, rdEqG, rdIx_tup, rdIx_rol, rdIx_put, rdSet, rdLen_tup, rdLen_rol, rdLen_str, rdLen_put, rdInt1, rdInt, rdInt2, rdAppend, rdExt, rdPopAt, rdMaxL, rdMinL, rdListV, rdIsB, isBlV, rdStrI, rdIntS, dFrz, dFld, insOf_put, dMeth, lstOf_rol, lstOf_put, seqOf_tup, seqOf_rol, seqOf_put, frz_tup, frz_rol, frz_int, frz_bl, frz_non, frz_str, frz_obj, startN, wipeD, List.map_cons, List.map_nil, List.length_cons, List.length_nil, Nat.zero_add, Nat.sub_self, Nat.reduceAdd, Nat.reduceSub, List.replicate_succ, List.replicate_zero, List.cons_append, List.nil_append, List.append_nil, List.getElem?_cons_zero, List.getElem?_cons_succ, List.set_cons_zero, List.set_cons_succ, Option.some.injEq, exists_eq_left', DEnds.xd, atI_0, atI_1, atI_2, atI_3, atI_4, atI_5, atI_6, atI_7, ixN_50, ixN_51, ixN_52, ixN_53, ixN_54, ixN_30, ixN_31, ixN_32, put_same, put_put, true_and, and_true, decide_true, decide_false, Bool.not_true, Bool.not_false, Bool.false_eq_true, if_true, if_false, decide_eq_true_eq, Bool.not_eq_true', decide_eq_false_iff_not, mem_one, ex_one, and_self, i_Disk, l_Disk, h_Disk_write, h_Disk_sync, h_Disk_blocks, h_Disk_synced, h_Disk_cut, h_Disk_drop, h_Disk_copy, g_Disk_rows, p_Disk_rows, k_Disk_rows, g_Disk_lasting, p_Disk_lasting, k_Disk_lasting]
      exact ⟨by decide, _, rfl, h⟩
  · simp only [dSeq, dAsg, dRet, dRetN, dDrop, dRaise, dBreak, dCont, dPar, dAug, dFor, dNext, dSetF, dAugF, dRaiseF, dIfS, dTest, dOp, dVar, dC, dCB, dCons, dNil, dCall, dAndV, dOrV, dNotV, dAndT, dOrT, dNotT, dIf, dTup, dLst, dLstV, dSl, dSlV, rdSlV, oSome, oNone, dNeg, gN, gT, gConsD, gNilD, gSubD, gFldD, dChain, dLc, dBM, isLst, iSeqD, iR1, iR2, iR3, dYes, rdAddV, rdMulV, rdSub, rdDiv, rdMod, rdPow, rdIAdd, rdCmp, rdIsN, isn_non, isn_bl, isn_int, isn_str, isn_ref, isn_tup, isn_rol, isn_obj, rdEqG, rdIx_tup, rdIx_rol, rdIx_put, rdSet, rdLen_tup, rdLen_rol, rdLen_str, rdLen_put, rdInt1, rdInt, rdInt2, rdAppend, rdExt, rdPopAt, rdMaxL, rdMinL, rdListV, rdIsB, isBlV, rdStrI, rdIntS, dFrz, dFld, insOf_put, dMeth, lstOf_rol, lstOf_put, seqOf_tup, seqOf_rol, seqOf_put, frz_tup, frz_rol, frz_int, frz_bl, frz_non, frz_str, frz_obj, startN, wipeD, List.map_cons, List.map_nil, List.length_cons, List.length_nil, Nat.zero_add, Nat.sub_self, Nat.reduceAdd, Nat.reduceSub, List.replicate_succ, List.replicate_zero, List.cons_append, List.nil_append, List.append_nil, List.getElem?_cons_zero, List.getElem?_cons_succ, List.set_cons_zero, List.set_cons_succ, Option.some.injEq, exists_eq_left', DEnds.xd, atI_0, atI_1, atI_2, atI_3, atI_4, atI_5, atI_6, atI_7, ixN_50, ixN_51, ixN_52, ixN_53, ixN_54, ixN_30, ixN_31, ixN_32, put_same, put_put, true_and, and_true, decide_true, decide_false, Bool.not_true, Bool.not_false, Bool.false_eq_true, if_true, if_false, decide_eq_true_eq, Bool.not_eq_true', decide_eq_false_iff_not, mem_one, ex_one, and_self, i_Disk, l_Disk, h_Disk_write, h_Disk_sync, h_Disk_blocks, h_Disk_synced, h_Disk_cut, h_Disk_drop, h_Disk_copy, g_Disk_rows, p_Disk_rows, k_Disk_rows, g_Disk_lasting, p_Disk_lasting, k_Disk_lasting]
    refine ⟨x, r, rows, l, d, rfl, hD, hk, ?_⟩
    cases e : cutOk (rows.drop l) d with
    | true =>
      rw [e, if_pos rfl] at h
      rw [if_pos rfl]
      intro r2 T hT hn hO
      exact ⟨by decide, h T r2 ⟨hT, .inr hn, hO.wide fun p hp => by simp at hp; simp [hp]⟩⟩
    | false =>
      rw [e, if_neg (by decide)] at h
      rw [if_neg (by decide)]
      unfold exTake
      refine ⟨by simp, fun ea he => ?_⟩
      simp only [dSeq, dAsg, dRet, dRetN, dDrop, dRaise, dBreak, dCont, dPar, dAug, dFor, dNext, dSetF, dAugF, dRaiseF, dIfS, dTest, dOp, dVar, dC, dCB, dCons, dNil, dCall, dAndV, dOrV, dNotV, dAndT, dOrT, dNotT, dIf, dTup, dLst, dLstV, dSl, dSlV, rdSlV, oSome, oNone, dNeg, gN, gT, gConsD, gNilD, gSubD, gFldD, dChain, dLc, dBM, isLst, iSeqD, iR1, iR2, iR3, dYes, rdAddV, rdMulV, rdSub, rdDiv, rdMod, rdPow, rdIAdd, rdCmp, rdIsN, isn_non, isn_bl, isn_int, isn_str, isn_ref, isn_tup, isn_rol, isn_obj, rdEqG, rdIx_tup, rdIx_rol, rdIx_put, rdSet, rdLen_tup, rdLen_rol, rdLen_str, rdLen_put, rdInt1, rdInt, rdInt2, rdAppend, rdExt, rdPopAt, rdMaxL, rdMinL, rdListV, rdIsB, isBlV, rdStrI, rdIntS, dFrz, dFld, insOf_put, dMeth, lstOf_rol, lstOf_put, seqOf_tup, seqOf_rol, seqOf_put, frz_tup, frz_rol, frz_int, frz_bl, frz_non, frz_str, frz_obj, startN, wipeD, List.map_cons, List.map_nil, List.length_cons, List.length_nil, Nat.zero_add, Nat.sub_self, Nat.reduceAdd, Nat.reduceSub, List.replicate_succ, List.replicate_zero, List.cons_append, List.nil_append, List.append_nil, List.getElem?_cons_zero, List.getElem?_cons_succ, List.set_cons_zero, List.set_cons_succ, Option.some.injEq, exists_eq_left', DEnds.xd, atI_0, atI_1, atI_2, atI_3, atI_4, atI_5, atI_6, atI_7, ixN_50, ixN_51, ixN_52, ixN_53, ixN_54, ixN_30, ixN_31, ixN_32, put_same, put_put, true_and, and_true, decide_true, decide_false, Bool.not_true, Bool.not_false, Bool.false_eq_true, if_true, if_false, decide_eq_true_eq, Bool.not_eq_true', decide_eq_false_iff_not, mem_one, ex_one, and_self, i_Disk, l_Disk, h_Disk_write, h_Disk_sync, h_Disk_blocks, h_Disk_synced, h_Disk_cut, h_Disk_drop, h_Disk_copy, g_Disk_rows, p_Disk_rows, k_Disk_rows, g_Disk_lasting, p_Disk_lasting, k_Disk_lasting, rdIsE, dBML, isLk, rdCntB, clsV]
      refine ⟨_, _, false, rfl, rfl, by simp, _, _, true, rfl, rfl, by simp, _, _, false, rfl, rfl, by simp, slK, [false, true, false], rfl, ?_⟩
      rw [if_pos (by decide)]
      refine ⟨_, _, true, rfl, rfl, by simp, ?_⟩
      simp only [dSeq, dAsg, dRet, dRetN, dDrop, dRaise, dBreak, dCont, dPar, dAug, dFor, dNext, dSetF, dAugF, dRaiseF, dIfS, dTest, dOp, dVar, dC, dCB, dCons, dNil, dCall, dAndV, dOrV, dNotV, dAndT, dOrT, dNotT, dIf, dTup, dLst, dLstV, dSl, dSlV, rdSlV, oSome, oNone, dNeg, gN, gT, gConsD, gNilD, gSubD, gFldD, dChain, dLc, dBM, isLst, iSeqD, iR1, iR2, iR3, dYes, rdAddV, rdMulV, rdSub, rdDiv, rdMod, rdPow, rdIAdd, rdCmp, rdIsN, isn_non, isn_bl, isn_int, isn_str, isn_ref, isn_tup, isn_rol, isn_obj, rdEqG, rdIx_tup, rdIx_rol, rdIx_put, rdSet, rdLen_tup, rdLen_rol, rdLen_str, rdLen_put, rdInt1, rdInt, rdInt2, rdAppend, rdExt, rdPopAt, rdMaxL, rdMinL, rdListV, rdIsB, isBlV, rdStrI, rdIntS, dFrz, dFld, insOf_put, dMeth, lstOf_rol, lstOf_put, seqOf_tup, seqOf_rol, seqOf_put, frz_tup, frz_rol, frz_int, frz_bl, frz_non, frz_str, frz_obj, startN, wipeD, List.map_cons, List.map_nil, List.length_cons, List.length_nil, Nat.zero_add, Nat.sub_self, Nat.reduceAdd, Nat.reduceSub, List.replicate_succ, List.replicate_zero, List.cons_append, List.nil_append, List.append_nil, List.getElem?_cons_zero, List.getElem?_cons_succ, List.set_cons_zero, List.set_cons_succ, Option.some.injEq, exists_eq_left', DEnds.xd, atI_0, atI_1, atI_2, atI_3, atI_4, atI_5, atI_6, atI_7, ixN_50, ixN_51, ixN_52, ixN_53, ixN_54, ixN_30, ixN_31, ixN_32, put_same, put_put, true_and, and_true, decide_true, decide_false, Bool.not_true, Bool.not_false, Bool.false_eq_true, if_true, if_false, decide_eq_true_eq, Bool.not_eq_true', decide_eq_false_iff_not, mem_one, ex_one, and_self, i_Disk, l_Disk, h_Disk_write, h_Disk_sync, h_Disk_blocks, h_Disk_synced, h_Disk_cut, h_Disk_drop, h_Disk_copy, g_Disk_rows, p_Disk_rows, k_Disk_rows, g_Disk_lasting, p_Disk_lasting, k_Disk_lasting]
      refine ⟨slK, flag_cut ?_⟩
      simp only [dSeq, dAsg, dRet, dRetN, dDrop, dRaise, dBreak, dCont, dPar, dAug, dFor, dNext, dSetF, dAugF, dRaiseF, dIfS, dTest, dOp, dVar, dC, dCB, dCons, dNil, dCall, dAndV, dOrV, dNotV, dAndT, dOrT, dNotT, dIf, dTup, dLst, dLstV, dSl, dSlV, rdSlV, oSome, oNone, dNeg, gN, gT, gConsD, gNilD, gSubD, gFldD, dChain, dLc, dBM, isLst, iSeqD, iR1, iR2, iR3, dYes, rdAddV, rdMulV, rdSub, rdDiv, rdMod, rdPow, rdIAdd, rdCmp, rdIsN, isn_non, isn_bl, isn_int, isn_str, isn_ref, isn_tup, isn_rol, isn_obj, rdEqG, rdIx_tup, rdIx_rol, rdIx_put, rdSet, rdLen_tup, rdLen_rol, rdLen_str, rdLen_put, rdInt1, rdInt, rdInt2, rdAppend, rdExt, rdPopAt, rdMaxL, rdMinL, rdListV, rdIsB, isBlV, rdStrI, rdIntS, dFrz, dFld, insOf_put, dMeth, lstOf_rol, lstOf_put, seqOf_tup, seqOf_rol, seqOf_put, frz_tup, frz_rol, frz_int, frz_bl, frz_non, frz_str, frz_obj, startN, wipeD, List.map_cons, List.map_nil, List.length_cons, List.length_nil, Nat.zero_add, Nat.sub_self, Nat.reduceAdd, Nat.reduceSub, List.replicate_succ, List.replicate_zero, List.cons_append, List.nil_append, List.append_nil, List.getElem?_cons_zero, List.getElem?_cons_succ, List.set_cons_zero, List.set_cons_succ, Option.some.injEq, exists_eq_left', DEnds.xd, atI_0, atI_1, atI_2, atI_3, atI_4, atI_5, atI_6, atI_7, ixN_50, ixN_51, ixN_52, ixN_53, ixN_54, ixN_30, ixN_31, ixN_32, put_same, put_put, true_and, and_true, decide_true, decide_false, Bool.not_true, Bool.not_false, Bool.false_eq_true, if_true, if_false, decide_eq_true_eq, Bool.not_eq_true', decide_eq_false_iff_not, mem_one, ex_one, and_self, i_Disk, l_Disk, h_Disk_write, h_Disk_sync, h_Disk_blocks, h_Disk_synced, h_Disk_cut, h_Disk_drop, h_Disk_copy, g_Disk_rows, p_Disk_rows, k_Disk_rows, g_Disk_lasting, p_Disk_lasting, k_Disk_lasting]
      exact ⟨by decide, _, rfl, h⟩
  · rw [if_neg (by decide), if_neg (by decide)]
    refine ⟨x, r, rows, l, d, rfl, hD, hk.1, ?_⟩
    cases e : within d 0 (rows.length : Nat) with
    | true =>
      rw [e, if_pos rfl] at h
      rw [if_pos rfl]
      intro r2 T hT hn hO
      exact ⟨by decide, h T r2 ⟨hT, .inr hn, hO.wide fun p hp => by simp at hp; simp [hp]⟩⟩
    | false =>
      rw [e, if_neg (by decide)] at h
      rw [if_neg (by decide)]
      unfold exTake
      refine ⟨by simp, fun ea he => ?_⟩
      simp only [dSeq, dAsg, dRet, dRetN, dDrop, dRaise, dBreak, dCont, dPar, dAug, dFor, dNext, dSetF, dAugF, dRaiseF, dIfS, dTest, dOp, dVar, dC, dCB, dCons, dNil, dCall, dAndV, dOrV, dNotV, dAndT, dOrT, dNotT, dIf, dTup, dLst, dLstV, dSl, dSlV, rdSlV, oSome, oNone, dNeg, gN, gT, gConsD, gNilD, gSubD, gFldD, dChain, dLc, dBM, isLst, iSeqD, iR1, iR2, iR3, dYes, rdAddV, rdMulV, rdSub, rdDiv, rdMod, rdPow, rdIAdd, rdCmp, rdIsN, isn_non, isn_bl, isn_int, isn_str, isn_ref, isn_tup, isn_rol, isn_obj, rdEqG, rdIx_tup, rdIx_rol, rdIx_put, rdSet, rdLen_tup, rdLen_rol, rdLen_str, rdLen_put, rdInt1, rdInt, rdInt2, rdAppend, rdExt, rdPopAt, rdMaxL, rdMinL, rdListV, rdIsB, isBlV, rdStrI, rdIntS, dFrz, dFld, insOf_put, dMeth, lstOf_rol, lstOf_put, seqOf_tup, seqOf_rol, seqOf_put, frz_tup, frz_rol, frz_int, frz_bl, frz_non, frz_str, frz_obj, startN, wipeD, List.map_cons, List.map_nil, List.length_cons, List.length_nil, Nat.zero_add, Nat.sub_self, Nat.reduceAdd, Nat.reduceSub, List.replicate_succ, List.replicate_zero, List.cons_append, List.nil_append, List.append_nil, List.getElem?_cons_zero, List.getElem?_cons_succ, List.set_cons_zero, List.set_cons_succ, Option.some.injEq, exists_eq_left', DEnds.xd, atI_0, atI_1, atI_2, atI_3, atI_4, atI_5, atI_6, atI_7, ixN_50, ixN_51, ixN_52, ixN_53, ixN_54, ixN_30, ixN_31, ixN_32, put_same, put_put, true_and, and_true, decide_true, decide_false, Bool.not_true, Bool.not_false, Bool.false_eq_true, if_true, if_false, decide_eq_true_eq, Bool.not_eq_true', decide_eq_false_iff_not, mem_one, ex_one, and_self, i_Disk, l_Disk, h_Disk_write, h_Disk_sync, h_Disk_blocks, h_Disk_synced, h_Disk_cut, h_Disk_drop, h_Disk_copy, g_Disk_rows, p_Disk_rows, k_Disk_rows, g_Disk_lasting, p_Disk_lasting, k_Disk_lasting, rdIsE, dBML, isLk, rdCntB, clsV]
      refine ⟨_, _, false, rfl, rfl, by simp, _, _, false, rfl, rfl, by simp, _, _, true, rfl, rfl, by simp, slK, [false, false, true], rfl, ?_⟩
      rw [if_pos (by decide)]
      refine ⟨_, _, true, rfl, rfl, by simp, ?_⟩
      simp only [dSeq, dAsg, dRet, dRetN, dDrop, dRaise, dBreak, dCont, dPar, dAug, dFor, dNext, dSetF, dAugF, dRaiseF, dIfS, dTest, dOp, dVar, dC, dCB, dCons, dNil, dCall, dAndV, dOrV, dNotV, dAndT, dOrT, dNotT, dIf, dTup, dLst, dLstV, dSl, dSlV, rdSlV, oSome, oNone, dNeg, gN, gT, gConsD, gNilD, gSubD, gFldD, dChain, dLc, dBM, isLst, iSeqD, iR1, iR2, iR3, dYes, rdAddV, rdMulV, rdSub, rdDiv, rdMod, rdPow, rdIAdd, rdCmp, rdIsN, isn_non, isn_bl, isn_int, isn_str, isn_ref, isn_tup, isn_rol, isn_obj, rdEqG, rdIx_tup, rdIx_rol, rdIx_put, rdSet, rdLen_tup, rdLen_rol, rdLen_str, rdLen_put, rdInt1, rdInt, rdInt2, rdAppend, rdExt, rdPopAt, rdMaxL, rdMinL, rdListV, rdIsB, isBlV, rdStrI, rdIntS, dFrz, dFld, insOf_put, dMeth, lstOf_rol, lstOf_put, seqOf_tup, seqOf_rol, seqOf_put, frz_tup, frz_rol, frz_int, frz_bl, frz_non, frz_str, frz_obj, startN, wipeD, List.map_cons, List.map_nil, List.length_cons, List.length_nil, Nat.zero_add, Nat.sub_self, Nat.reduceAdd, Nat.reduceSub, List.replicate_succ, List.replicate_zero, List.cons_append, List.nil_append, List.append_nil, List.getElem?_cons_zero, List.getElem?_cons_succ, List.set_cons_zero, List.set_cons_succ, Option.some.injEq, exists_eq_left', DEnds.xd, atI_0, atI_1, atI_2, atI_3, atI_4, atI_5, atI_6, atI_7, ixN_50, ixN_51, ixN_52, ixN_53, ixN_54, ixN_30, ixN_31, ixN_32, put_same, put_put, true_and, and_true, decide_true, decide_false, Bool.not_true, Bool.not_false, Bool.false_eq_true, if_true, if_false, decide_eq_true_eq, Bool.not_eq_true', decide_eq_false_iff_not, mem_one, ex_one, and_self, i_Disk, l_Disk, h_Disk_write, h_Disk_sync, h_Disk_blocks, h_Disk_synced, h_Disk_cut, h_Disk_drop, h_Disk_copy, g_Disk_rows, p_Disk_rows, k_Disk_rows, g_Disk_lasting, p_Disk_lasting, k_Disk_lasting]
      refine ⟨slK, flag_num ?_⟩
      simp only [dSeq, dAsg, dRet, dRetN, dDrop, dRaise, dBreak, dCont, dPar, dAug, dFor, dNext, dSetF, dAugF, dRaiseF, dIfS, dTest, dOp, dVar, dC, dCB, dCons, dNil, dCall, dAndV, dOrV, dNotV, dAndT, dOrT, dNotT, dIf, dTup, dLst, dLstV, dSl, dSlV, rdSlV, oSome, oNone, dNeg, gN, gT, gConsD, gNilD, gSubD, gFldD, dChain, dLc, dBM, isLst, iSeqD, iR1, iR2, iR3, dYes, rdAddV, rdMulV, rdSub, rdDiv, rdMod, rdPow, rdIAdd, rdCmp, rdIsN, isn_non, isn_bl, isn_int, isn_str, isn_ref, isn_tup, isn_rol, isn_obj, rdEqG, rdIx_tup, rdIx_rol, rdIx_put, rdSet, rdLen_tup, rdLen_rol, rdLen_str, rdLen_put, rdInt1, rdInt, rdInt2, rdAppend, rdExt, rdPopAt, rdMaxL, rdMinL, rdListV, rdIsB, isBlV, rdStrI, rdIntS, dFrz, dFld, insOf_put, dMeth, lstOf_rol, lstOf_put, seqOf_tup, seqOf_rol, seqOf_put, frz_tup, frz_rol, frz_int, frz_bl, frz_non, frz_str, frz_obj, startN, wipeD, List.map_cons, List.map_nil, List.length_cons, List.length_nil, Nat.zero_add, Nat.sub_self, Nat.reduceAdd, Nat.reduceSub, List.replicate_succ, List.replicate_zero, List.cons_append, List.nil_append, List.append_nil, List.getElem?_cons_zero, List.getElem?_cons_succ, List.set_cons_zero, List.set_cons_succ, Option.some.injEq, exists_eq_left', DEnds.xd, atI_0, atI_1, atI_2, atI_3, atI_4, atI_5, atI_6, atI_7, ixN_50, ixN_51, ixN_52, ixN_53, ixN_54, ixN_30, ixN_31, ixN_32, put_same, put_put, true_and, and_true, decide_true, decide_false, Bool.not_true, Bool.not_false, Bool.false_eq_true, if_true, if_false, decide_eq_true_eq, Bool.not_eq_true', decide_eq_false_iff_not, mem_one, ex_one, and_self, i_Disk, l_Disk, h_Disk_write, h_Disk_sync, h_Disk_blocks, h_Disk_synced, h_Disk_cut, h_Disk_drop, h_Disk_copy, g_Disk_rows, p_Disk_rows, k_Disk_rows, g_Disk_lasting, p_Disk_lasting, k_Disk_lasting]
      exact ⟨by decide, _, rfl, h⟩

def sp__law_is_row (A : Ad) : SpD := fun ds S Q _ => ∃ d, ds = [d] ∧ knownL A S d ∧ (∀ xs, d = .tup xs → xs.length ≤ 300000) ∧ Q (.bl (isRow d)) S
theorem len__law_is_row (A : Ad) : ∀ ds S Q X, sp__law_is_row A ds S Q X → ds.length = 1 := by rintro _ _ _ _ ⟨_, rfl, _⟩; rfl
def r__law_is_row (A : Ad) : DS := (dSeq (dIfS (dNotT (dTest (dCB (rdIsi A.ot) (dCons (dVar 0) (dCons (dC (.ty "tuple")) dNil))))) (dRet (dC (.bl false))) dNext)
    (dRet (dCB rdAll (dCons (dFrz (dLc (iSeqD (dVar 0)) (gN 1) dYes (dAndV (dCB (rdIsi A.ot) (dCons (dVar 1) (dCons (dC (.ty "int")) dNil))) (dAndV (dNotV (dCB (rdIsi A.ot) (dCons (dVar 1) (dCons (dC (.ty "bool")) dNil)))) (dChain rdLe rdLt (dC (.int 0)) (dVar 1) (dC (.int 256))))) [1])) dNil))))
theorem rd__law_is_row (A : Ad) : Rd (r__law_is_row A) 2 (sp__law_is_row A) := by
  rintro ds S Q X ⟨d, rfl, hk, hl, h⟩
  unfold r__law_is_row
  simp only [dSeq, dAsg, dRet, dRetN, dDrop, dRaise, dBreak, dCont, dPar, dAug, dFor, dNext, dSetF, dAugF, dRaiseF, dIfS, dTest, dOp, dVar, dC, dCB, dCons, dNil, dCall, dAndV, dOrV, dNotV, dAndT, dOrT, dNotT, dIf, dTup, dLst, dLstV, dSl, dSlV, rdSlV, oSome, oNone, dNeg, gN, gT, gConsD, gNilD, gSubD, gFldD, dChain, dLc, dBM, isLst, iSeqD, iR1, iR2, iR3, dYes, rdAddV, rdMulV, rdSub, rdDiv, rdMod, rdPow, rdIAdd, rdCmp, rdIsN, isn_non, isn_bl, isn_int, isn_str, isn_ref, isn_tup, isn_rol, isn_obj, rdEqG, rdIx_tup, rdIx_rol, rdIx_put, rdSet, rdLen_tup, rdLen_rol, rdLen_str, rdLen_put, rdInt1, rdInt, rdInt2, rdAppend, rdExt, rdPopAt, rdMaxL, rdMinL, rdListV, rdIsB, isBlV, rdStrI, rdIntS, dFrz, dFld, insOf_put, dMeth, lstOf_rol, lstOf_put, seqOf_tup, seqOf_rol, seqOf_put, frz_tup, frz_rol, frz_int, frz_bl, frz_non, frz_str, frz_obj, startN, wipeD, List.map_cons, List.map_nil, List.length_cons, List.length_nil, Nat.zero_add, Nat.sub_self, Nat.reduceAdd, Nat.reduceSub, List.replicate_succ, List.replicate_zero, List.cons_append, List.nil_append, List.append_nil, List.getElem?_cons_zero, List.getElem?_cons_succ, List.set_cons_zero, List.set_cons_succ, Option.some.injEq, exists_eq_left', DEnds.xd, atI_0, atI_1, atI_2, atI_3, atI_4, atI_5, atI_6, atI_7, ixN_50, ixN_51, ixN_52, ixN_53, ixN_54, ixN_30, ixN_31, ixN_32, put_same, put_put, true_and, and_true, decide_true, decide_false, Bool.not_true, Bool.not_false, Bool.false_eq_true, if_true, if_false, decide_eq_true_eq, Bool.not_eq_true', decide_eq_false_iff_not, mem_one, ex_one, and_self, i_Disk, l_Disk, h_Disk_write, h_Disk_sync, h_Disk_blocks, h_Disk_synced, h_Disk_cut, h_Disk_drop, h_Disk_copy, g_Disk_rows, p_Disk_rows, k_Disk_rows, g_Disk_lasting, p_Disk_lasting, k_Disk_lasting]
  refine isi_tuple hk.1 ?_
  cases d with
  | tup xs =>
    simp only [dSeq, dAsg, dRet, dRetN, dDrop, dRaise, dBreak, dCont, dPar, dAug, dFor, dNext, dSetF, dAugF, dRaiseF, dIfS, dTest, dOp, dVar, dC, dCB, dCons, dNil, dCall, dAndV, dOrV, dNotV, dAndT, dOrT, dNotT, dIf, dTup, dLst, dLstV, dSl, dSlV, rdSlV, oSome, oNone, dNeg, gN, gT, gConsD, gNilD, gSubD, gFldD, dChain, dLc, dBM, isLst, iSeqD, iR1, iR2, iR3, dYes, rdAddV, rdMulV, rdSub, rdDiv, rdMod, rdPow, rdIAdd, rdCmp, rdIsN, isn_non, isn_bl, isn_int, isn_str, isn_ref, isn_tup, isn_rol, isn_obj, rdEqG, rdIx_tup, rdIx_rol, rdIx_put, rdSet, rdLen_tup, rdLen_rol, rdLen_str, rdLen_put, rdInt1, rdInt, rdInt2, rdAppend, rdExt, rdPopAt, rdMaxL, rdMinL, rdListV, rdIsB, isBlV, rdStrI, rdIntS, dFrz, dFld, insOf_put, dMeth, lstOf_rol, lstOf_put, seqOf_tup, seqOf_rol, seqOf_put, frz_tup, frz_rol, frz_int, frz_bl, frz_non, frz_str, frz_obj, startN, wipeD, List.map_cons, List.map_nil, List.length_cons, List.length_nil, Nat.zero_add, Nat.sub_self, Nat.reduceAdd, Nat.reduceSub, List.replicate_succ, List.replicate_zero, List.cons_append, List.nil_append, List.append_nil, List.getElem?_cons_zero, List.getElem?_cons_succ, List.set_cons_zero, List.set_cons_succ, Option.some.injEq, exists_eq_left', DEnds.xd, atI_0, atI_1, atI_2, atI_3, atI_4, atI_5, atI_6, atI_7, ixN_50, ixN_51, ixN_52, ixN_53, ixN_54, ixN_30, ixN_31, ixN_32, put_same, put_put, true_and, and_true, decide_true, decide_false, Bool.not_true, Bool.not_false, Bool.false_eq_true, if_true, if_false, decide_eq_true_eq, Bool.not_eq_true', decide_eq_false_iff_not, mem_one, ex_one, and_self, i_Disk, l_Disk, h_Disk_write, h_Disk_sync, h_Disk_blocks, h_Disk_synced, h_Disk_cut, h_Disk_drop, h_Disk_copy, g_Disk_rows, p_Disk_rows, k_Disk_rows, g_Disk_lasting, p_Disk_lasting, k_Disk_lasting, isTup]
    have hlen := hl xs rfl
    refine lcV_pure (fun x => Dv.bl (within x 0 255)) (by rw [sizeLine_eq]; omega) (fun _ _ _ => trivial) (fun x hx T Kq hs hq => ?_) ?_
    · have hkx := (hk.2 x hx).sub hs
      simp only [dSeq, dAsg, dRet, dRetN, dDrop, dRaise, dBreak, dCont, dPar, dAug, dFor, dNext, dSetF, dAugF, dRaiseF, dIfS, dTest, dOp, dVar, dC, dCB, dCons, dNil, dCall, dAndV, dOrV, dNotV, dAndT, dOrT, dNotT, dIf, dTup, dLst, dLstV, dSl, dSlV, rdSlV, oSome, oNone, dNeg, gN, gT, gConsD, gNilD, gSubD, gFldD, dChain, dLc, dBM, isLst, iSeqD, iR1, iR2, iR3, dYes, rdAddV, rdMulV, rdSub, rdDiv, rdMod, rdPow, rdIAdd, rdCmp, rdIsN, isn_non, isn_bl, isn_int, isn_str, isn_ref, isn_tup, isn_rol, isn_obj, rdEqG, rdIx_tup, rdIx_rol, rdIx_put, rdSet, rdLen_tup, rdLen_rol, rdLen_str, rdLen_put, rdInt1, rdInt, rdInt2, rdAppend, rdExt, rdPopAt, rdMaxL, rdMinL, rdListV, rdIsB, isBlV, rdStrI, rdIntS, dFrz, dFld, insOf_put, dMeth, lstOf_rol, lstOf_put, seqOf_tup, seqOf_rol, seqOf_put, frz_tup, frz_rol, frz_int, frz_bl, frz_non, frz_str, frz_obj, startN, wipeD, List.map_cons, List.map_nil, List.length_cons, List.length_nil, Nat.zero_add, Nat.sub_self, Nat.reduceAdd, Nat.reduceSub, List.replicate_succ, List.replicate_zero, List.cons_append, List.nil_append, List.append_nil, List.getElem?_cons_zero, List.getElem?_cons_succ, List.set_cons_zero, List.set_cons_succ, Option.some.injEq, exists_eq_left', DEnds.xd, atI_0, atI_1, atI_2, atI_3, atI_4, atI_5, atI_6, atI_7, ixN_50, ixN_51, ixN_52, ixN_53, ixN_54, ixN_30, ixN_31, ixN_32, put_same, put_put, true_and, and_true, decide_true, decide_false, Bool.not_true, Bool.not_false, Bool.false_eq_true, if_true, if_false, decide_eq_true_eq, Bool.not_eq_true', decide_eq_false_iff_not, mem_one, ex_one, and_self, i_Disk, l_Disk, h_Disk_write, h_Disk_sync, h_Disk_blocks, h_Disk_synced, h_Disk_cut, h_Disk_drop, h_Disk_copy, g_Disk_rows, p_Disk_rows, k_Disk_rows, g_Disk_lasting, p_Disk_lasting, k_Disk_lasting]
      refine isi_int hkx ?_
      cases x with
      | int i =>
        simp only [dSeq, dAsg, dRet, dRetN, dDrop, dRaise, dBreak, dCont, dPar, dAug, dFor, dNext, dSetF, dAugF, dRaiseF, dIfS, dTest, dOp, dVar, dC, dCB, dCons, dNil, dCall, dAndV, dOrV, dNotV, dAndT, dOrT, dNotT, dIf, dTup, dLst, dLstV, dSl, dSlV, rdSlV, oSome, oNone, dNeg, gN, gT, gConsD, gNilD, gSubD, gFldD, dChain, dLc, dBM, isLst, iSeqD, iR1, iR2, iR3, dYes, rdAddV, rdMulV, rdSub, rdDiv, rdMod, rdPow, rdIAdd, rdCmp, rdIsN, isn_non, isn_bl, isn_int, isn_str, isn_ref, isn_tup, isn_rol, isn_obj, rdEqG, rdIx_tup, rdIx_rol, rdIx_put, rdSet, rdLen_tup, rdLen_rol, rdLen_str, rdLen_put, rdInt1, rdInt, rdInt2, rdAppend, rdExt, rdPopAt, rdMaxL, rdMinL, rdListV, rdIsB, isBlV, rdStrI, rdIntS, dFrz, dFld, insOf_put, dMeth, lstOf_rol, lstOf_put, seqOf_tup, seqOf_rol, seqOf_put, frz_tup, frz_rol, frz_int, frz_bl, frz_non, frz_str, frz_obj, startN, wipeD, List.map_cons, List.map_nil, List.length_cons, List.length_nil, Nat.zero_add, Nat.sub_self, Nat.reduceAdd, Nat.reduceSub, List.replicate_succ, List.replicate_zero, List.cons_append, List.nil_append, List.append_nil, List.getElem?_cons_zero, List.getElem?_cons_succ, List.set_cons_zero, List.set_cons_succ, Option.some.injEq, exists_eq_left', DEnds.xd, atI_0, atI_1, atI_2, atI_3, atI_4, atI_5, atI_6, atI_7, ixN_50, ixN_51, ixN_52, ixN_53, ixN_54, ixN_30, ixN_31, ixN_32, put_same, put_put, true_and, and_true, decide_true, decide_false, Bool.not_true, Bool.not_false, Bool.false_eq_true, if_true, if_false, decide_eq_true_eq, Bool.not_eq_true', decide_eq_false_iff_not, mem_one, ex_one, and_self, i_Disk, l_Disk, h_Disk_write, h_Disk_sync, h_Disk_blocks, h_Disk_synced, h_Disk_cut, h_Disk_drop, h_Disk_copy, g_Disk_rows, p_Disk_rows, k_Disk_rows, g_Disk_lasting, p_Disk_lasting, k_Disk_lasting, isInt, isBl, Bool.or_false]
        refine isi_bool hkx ?_
        simp only [dSeq, dAsg, dRet, dRetN, dDrop, dRaise, dBreak, dCont, dPar, dAug, dFor, dNext, dSetF, dAugF, dRaiseF, dIfS, dTest, dOp, dVar, dC, dCB, dCons, dNil, dCall, dAndV, dOrV, dNotV, dAndT, dOrT, dNotT, dIf, dTup, dLst, dLstV, dSl, dSlV, rdSlV, oSome, oNone, dNeg, gN, gT, gConsD, gNilD, gSubD, gFldD, dChain, dLc, dBM, isLst, iSeqD, iR1, iR2, iR3, dYes, rdAddV, rdMulV, rdSub, rdDiv, rdMod, rdPow, rdIAdd, rdCmp, rdIsN, isn_non, isn_bl, isn_int, isn_str, isn_ref, isn_tup, isn_rol, isn_obj, rdEqG, rdIx_tup, rdIx_rol, rdIx_put, rdSet, rdLen_tup, rdLen_rol, rdLen_str, rdLen_put, rdInt1, rdInt, rdInt2, rdAppend, rdExt, rdPopAt, rdMaxL, rdMinL, rdListV, rdIsB, isBlV, rdStrI, rdIntS, dFrz, dFld, insOf_put, dMeth, lstOf_rol, lstOf_put, seqOf_tup, seqOf_rol, seqOf_put, frz_tup, frz_rol, frz_int, frz_bl, frz_non, frz_str, frz_obj, startN, wipeD, List.map_cons, List.map_nil, List.length_cons, List.length_nil, Nat.zero_add, Nat.sub_self, Nat.reduceAdd, Nat.reduceSub, List.replicate_succ, List.replicate_zero, List.cons_append, List.nil_append, List.append_nil, List.getElem?_cons_zero, List.getElem?_cons_succ, List.set_cons_zero, List.set_cons_succ, Option.some.injEq, exists_eq_left', DEnds.xd, atI_0, atI_1, atI_2, atI_3, atI_4, atI_5, atI_6, atI_7, ixN_50, ixN_51, ixN_52, ixN_53, ixN_54, ixN_30, ixN_31, ixN_32, put_same, put_put, true_and, and_true, decide_true, decide_false, Bool.not_true, Bool.not_false, Bool.false_eq_true, if_true, if_false, decide_eq_true_eq, Bool.not_eq_true', decide_eq_false_iff_not, mem_one, ex_one, and_self, i_Disk, l_Disk, h_Disk_write, h_Disk_sync, h_Disk_blocks, h_Disk_synced, h_Disk_cut, h_Disk_drop, h_Disk_copy, g_Disk_rows, p_Disk_rows, k_Disk_rows, g_Disk_lasting, p_Disk_lasting, k_Disk_lasting, isBl]
        have e : within (.int i) 0 255 = (decide (0 ≤ i) && decide (i ≤ 255)) := rfl
        rw [e] at hq
        by_cases h1 : 0 ≤ i
        · rw [decide_eq_true h1]
          rw [decide_eq_true h1, Bool.true_and, decide_eq_decide.mpr (show i ≤ 255 ↔ i < 256 by omega)] at hq
          exact hq
        · rw [decide_eq_false h1]
          rw [decide_eq_false h1, Bool.false_and] at hq
          exact hq
      | bl b =>
        simp only [dSeq, dAsg, dRet, dRetN, dDrop, dRaise, dBreak, dCont, dPar, dAug, dFor, dNext, dSetF, dAugF, dRaiseF, dIfS, dTest, dOp, dVar, dC, dCB, dCons, dNil, dCall, dAndV, dOrV, dNotV, dAndT, dOrT, dNotT, dIf, dTup, dLst, dLstV, dSl, dSlV, rdSlV, oSome, oNone, dNeg, gN, gT, gConsD, gNilD, gSubD, gFldD, dChain, dLc, dBM, isLst, iSeqD, iR1, iR2, iR3, dYes, rdAddV, rdMulV, rdSub, rdDiv, rdMod, rdPow, rdIAdd, rdCmp, rdIsN, isn_non, isn_bl, isn_int, isn_str, isn_ref, isn_tup, isn_rol, isn_obj, rdEqG, rdIx_tup, rdIx_rol, rdIx_put, rdSet, rdLen_tup, rdLen_rol, rdLen_str, rdLen_put, rdInt1, rdInt, rdInt2, rdAppend, rdExt, rdPopAt, rdMaxL, rdMinL, rdListV, rdIsB, isBlV, rdStrI, rdIntS, dFrz, dFld, insOf_put, dMeth, lstOf_rol, lstOf_put, seqOf_tup, seqOf_rol, seqOf_put, frz_tup, frz_rol, frz_int, frz_bl, frz_non, frz_str, frz_obj, startN, wipeD, List.map_cons, List.map_nil, List.length_cons, List.length_nil, Nat.zero_add, Nat.sub_self, Nat.reduceAdd, Nat.reduceSub, List.replicate_succ, List.replicate_zero, List.cons_append, List.nil_append, List.append_nil, List.getElem?_cons_zero, List.getElem?_cons_succ, List.set_cons_zero, List.set_cons_succ, Option.some.injEq, exists_eq_left', DEnds.xd, atI_0, atI_1, atI_2, atI_3, atI_4, atI_5, atI_6, atI_7, ixN_50, ixN_51, ixN_52, ixN_53, ixN_54, ixN_30, ixN_31, ixN_32, put_same, put_put, true_and, and_true, decide_true, decide_false, Bool.not_true, Bool.not_false, Bool.false_eq_true, if_true, if_false, decide_eq_true_eq, Bool.not_eq_true', decide_eq_false_iff_not, mem_one, ex_one, and_self, i_Disk, l_Disk, h_Disk_write, h_Disk_sync, h_Disk_blocks, h_Disk_synced, h_Disk_cut, h_Disk_drop, h_Disk_copy, g_Disk_rows, p_Disk_rows, k_Disk_rows, g_Disk_lasting, p_Disk_lasting, k_Disk_lasting, isInt, isBl, Bool.or_true]
        refine isi_bool hkx ?_
        simp only [dSeq, dAsg, dRet, dRetN, dDrop, dRaise, dBreak, dCont, dPar, dAug, dFor, dNext, dSetF, dAugF, dRaiseF, dIfS, dTest, dOp, dVar, dC, dCB, dCons, dNil, dCall, dAndV, dOrV, dNotV, dAndT, dOrT, dNotT, dIf, dTup, dLst, dLstV, dSl, dSlV, rdSlV, oSome, oNone, dNeg, gN, gT, gConsD, gNilD, gSubD, gFldD, dChain, dLc, dBM, isLst, iSeqD, iR1, iR2, iR3, dYes, rdAddV, rdMulV, rdSub, rdDiv, rdMod, rdPow, rdIAdd, rdCmp, rdIsN, isn_non, isn_bl, isn_int, isn_str, isn_ref, isn_tup, isn_rol, isn_obj, rdEqG, rdIx_tup, rdIx_rol, rdIx_put, rdSet, rdLen_tup, rdLen_rol, rdLen_str, rdLen_put, rdInt1, rdInt, rdInt2, rdAppend, rdExt, rdPopAt, rdMaxL, rdMinL, rdListV, rdIsB, isBlV, rdStrI, rdIntS, dFrz, dFld, insOf_put, dMeth, lstOf_rol, lstOf_put, seqOf_tup, seqOf_rol, seqOf_put, frz_tup, frz_rol, frz_int, frz_bl, frz_non, frz_str, frz_obj, startN, wipeD, List.map_cons, List.map_nil, List.length_cons, List.length_nil, Nat.zero_add, Nat.sub_self, Nat.reduceAdd, Nat.reduceSub, List.replicate_succ, List.replicate_zero, List.cons_append, List.nil_append, List.append_nil, List.getElem?_cons_zero, List.getElem?_cons_succ, List.set_cons_zero, List.set_cons_succ, Option.some.injEq, exists_eq_left', DEnds.xd, atI_0, atI_1, atI_2, atI_3, atI_4, atI_5, atI_6, atI_7, ixN_50, ixN_51, ixN_52, ixN_53, ixN_54, ixN_30, ixN_31, ixN_32, put_same, put_put, true_and, and_true, decide_true, decide_false, Bool.not_true, Bool.not_false, Bool.false_eq_true, if_true, if_false, decide_eq_true_eq, Bool.not_eq_true', decide_eq_false_iff_not, mem_one, ex_one, and_self, i_Disk, l_Disk, h_Disk_write, h_Disk_sync, h_Disk_blocks, h_Disk_synced, h_Disk_cut, h_Disk_drop, h_Disk_copy, g_Disk_rows, p_Disk_rows, k_Disk_rows, g_Disk_lasting, p_Disk_lasting, k_Disk_lasting, isBl]
        exact hq
      | _ => simp only [dSeq, dAsg, dRet, dRetN, dDrop, dRaise, dBreak, dCont, dPar, dAug, dFor, dNext, dSetF, dAugF, dRaiseF, dIfS, dTest, dOp, dVar, dC, dCB, dCons, dNil, dCall, dAndV, dOrV, dNotV, dAndT, dOrT, dNotT, dIf, dTup, dLst, dLstV, dSl, dSlV, rdSlV, oSome, oNone, dNeg, gN, gT, gConsD, gNilD, gSubD, gFldD, dChain, dLc, dBM, isLst, iSeqD, iR1, iR2, iR3, dYes, rdAddV, rdMulV, rdSub, rdDiv, rdMod, rdPow, rdIAdd, rdCmp, rdIsN, isn_non, isn_bl, isn_int, isn_str, isn_ref, isn_tup, isn_rol, isn_obj, rdEqG, rdIx_tup, rdIx_rol, rdIx_put, rdSet, rdLen_tup, rdLen_rol, rdLen_str, rdLen_put, rdInt1, rdInt, rdInt2, rdAppend, rdExt, rdPopAt, rdMaxL, rdMinL, rdListV, rdIsB, isBlV, rdStrI, rdIntS, dFrz, dFld, insOf_put, dMeth, lstOf_rol, lstOf_put, seqOf_tup, seqOf_rol, seqOf_put, frz_tup, frz_rol, frz_int, frz_bl, frz_non, frz_str, frz_obj, startN, wipeD, List.map_cons, List.map_nil, List.length_cons, List.length_nil, Nat.zero_add, Nat.sub_self, Nat.reduceAdd, Nat.reduceSub, List.replicate_succ, List.replicate_zero, List.cons_append, List.nil_append, List.append_nil, List.getElem?_cons_zero, List.getElem?_cons_succ, List.set_cons_zero, List.set_cons_succ, Option.some.injEq, exists_eq_left', DEnds.xd, atI_0, atI_1, atI_2, atI_3, atI_4, atI_5, atI_6, atI_7, ixN_50, ixN_51, ixN_52, ixN_53, ixN_54, ixN_30, ixN_31, ixN_32, put_same, put_put, true_and, and_true, decide_true, decide_false, Bool.not_true, Bool.not_false, Bool.false_eq_true, if_true, if_false, decide_eq_true_eq, Bool.not_eq_true', decide_eq_false_iff_not, mem_one, ex_one, and_self, i_Disk, l_Disk, h_Disk_write, h_Disk_sync, h_Disk_blocks, h_Disk_synced, h_Disk_cut, h_Disk_drop, h_Disk_copy, g_Disk_rows, p_Disk_rows, k_Disk_rows, g_Disk_lasting, p_Disk_lasting, k_Disk_lasting, isInt, isBl, Bool.or_false]; exact hq
    · rw [all_map]
      refine all_rol ?_
      rw [List.all_map, Function.id_comp]
      unfold isRow allT at h
      dsimp only at h
      rw [decide_eq_true (by omega), Bool.true_and] at h
      exact h
  | _ => simp only [dSeq, dAsg, dRet, dRetN, dDrop, dRaise, dBreak, dCont, dPar, dAug, dFor, dNext, dSetF, dAugF, dRaiseF, dIfS, dTest, dOp, dVar, dC, dCB, dCons, dNil, dCall, dAndV, dOrV, dNotV, dAndT, dOrT, dNotT, dIf, dTup, dLst, dLstV, dSl, dSlV, rdSlV, oSome, oNone, dNeg, gN, gT, gConsD, gNilD, gSubD, gFldD, dChain, dLc, dBM, isLst, iSeqD, iR1, iR2, iR3, dYes, rdAddV, rdMulV, rdSub, rdDiv, rdMod, rdPow, rdIAdd, rdCmp, rdIsN, isn_non, isn_bl, isn_int, isn_str, isn_ref, isn_tup, isn_rol, isn_obj, rdEqG, rdIx_tup, rdIx_rol, rdIx_put, rdSet, rdLen_tup, rdLen_rol, rdLen_str, rdLen_put, rdInt1, rdInt, rdInt2, rdAppend, rdExt, rdPopAt, rdMaxL, rdMinL, rdListV, rdIsB, isBlV, rdStrI, rdIntS, dFrz, dFld, insOf_put, dMeth, lstOf_rol, lstOf_put, seqOf_tup, seqOf_rol, seqOf_put, frz_tup, frz_rol, frz_int, frz_bl, frz_non, frz_str, frz_obj, startN, wipeD, List.map_cons, List.map_nil, List.length_cons, List.length_nil, Nat.zero_add, Nat.sub_self, Nat.reduceAdd, Nat.reduceSub, List.replicate_succ, List.replicate_zero, List.cons_append, List.nil_append, List.append_nil, List.getElem?_cons_zero, List.getElem?_cons_succ, List.set_cons_zero, List.set_cons_succ, Option.some.injEq, exists_eq_left', DEnds.xd, atI_0, atI_1, atI_2, atI_3, atI_4, atI_5, atI_6, atI_7, ixN_50, ixN_51, ixN_52, ixN_53, ixN_54, ixN_30, ixN_31, ixN_32, put_same, put_put, true_and, and_true, decide_true, decide_false, Bool.not_true, Bool.not_false, Bool.false_eq_true, if_true, if_false, decide_eq_true_eq, Bool.not_eq_true', decide_eq_false_iff_not, mem_one, ex_one, and_self, i_Disk, l_Disk, h_Disk_write, h_Disk_sync, h_Disk_blocks, h_Disk_synced, h_Disk_cut, h_Disk_drop, h_Disk_copy, g_Disk_rows, p_Disk_rows, k_Disk_rows, g_Disk_lasting, p_Disk_lasting, k_Disk_lasting, isTup]; exact h
end Lw

--CLS Disk
namespace Lw
open PySem PySem.Spec PyProof.Rows L2 VD
def sp__law_is_cut (A : Ad) : SpD := fun ds S Q _ => ∃ (b : Addr) (rows : List (List Int)) (l : Nat) (d : Dv), ds = [.ref b, .int (l : Nat), d] ∧ S b = some (.lst (rows.map tb)) ∧ l ≤ rows.length ∧ rows.length ≤ 1000 ∧ knownL A S d ∧ Q (.bl (cutOk (rows.drop l) d)) S
theorem len__law_is_cut (A : Ad) : ∀ ds S Q X, sp__law_is_cut A ds S Q X → ds.length = 3 := by rintro _ _ _ _ ⟨_, _, _, _, rfl, _⟩; rfl
def r__law_is_cut (A : Ad) : DS := (dSeq (dIfS (dOrT (dNotT (dTest (dCB (rdIsi A.ot) (dCons (dVar 2) (dCons (dC (.ty "tuple")) dNil))))) (dTest (dOp rdNe (dCB rdLen (dCons (dVar 2) dNil)) (dOp rdSub (dCB rdLen (dCons (dVar 0) dNil)) (dVar 1))))) (dRet (dC (.bl false))) dNext)
    (dSeq (dFor (iZipM (dCons (dVar 2) (dCons (dSlV (dVar 0) (oSome (dVar 1)) oNone) dNil))) (gT 2 (gConsD (gN 3) (gConsD (gN 4) gNilD))) (dIfS (dOrT (dNotT (dTest (dCB (rdIsi A.ot) (dCons (dVar 3) (dCons (dC (.ty "int")) dNil))))) (dOrT (dTest (dCB (rdIsi A.ot) (dCons (dVar 3) (dCons (dC (.ty "bool")) dNil)))) (dNotT (dTest (dChain rdLe rdLe (dC (.int 0)) (dVar 3) (dCB rdLen (dCons (dVar 4) dNil))))))) (dRet (dC (.bl false))) dNext))
    (dRet (dC (.bl true)))))
theorem rd__law_is_cut (A : Ad) : Rd (r__law_is_cut A) 5 (sp__law_is_cut A) := by
  rintro ds S Q X ⟨b, rows, l, d, rfl, hb, hl, hf, hk, h⟩
  unfold r__law_is_cut dFor
  simp only [dSeq, dAsg, dRet, dRetN, dDrop, dRaise, dBreak, dCont, dPar, dAug, dFor, dNext, dSetF, dAugF, dRaiseF, dIfS, dTest, dOp, dVar, dC, dCB, dCons, dNil, dCall, dAndV, dOrV, dNotV, dAndT, dOrT, dNotT, dIf, dTup, dLst, dLstV, dSl, dSlV, rdSlV, oSome, oNone, dNeg, gN, gT, gConsD, gNilD, gSubD, gFldD, dChain, dLc, dBM, isLst, iSeqD, iR1, iR2, iR3, dYes, rdAddV, rdMulV, rdSub, rdDiv, rdMod, rdPow, rdIAdd, rdCmp, rdIsN, isn_non, isn_bl, isn_int, isn_str, isn_ref, isn_tup, isn_rol, isn_obj, rdEqG, rdIx_tup, rdIx_rol, rdIx_put, rdSet, rdLen_tup, rdLen_rol, rdLen_str, rdLen_put, rdInt1, rdInt, rdInt2, rdAppend, rdExt, rdPopAt, rdMaxL, rdMinL, rdListV, rdIsB, isBlV, rdStrI, rdIntS, dFrz, dFld, insOf_put, dMeth, lstOf_rol, lstOf_put, seqOf_tup, seqOf_rol, seqOf_put, frz_tup, frz_rol, frz_int, frz_bl, frz_non, frz_str, frz_obj, startN, wipeD, List.map_cons, List.map_nil, List.length_cons, List.length_nil, Nat.zero_add, Nat.sub_self, Nat.reduceAdd, Nat.reduceSub, List.replicate_succ, List.replicate_zero, List.cons_append, List.nil_append, List.append_nil, List.getElem?_cons_zero, List.getElem?_cons_succ, List.set_cons_zero, List.set_cons_succ, Option.some.injEq, exists_eq_left', DEnds.xd, atI_0, atI_1, atI_2, atI_3, atI_4, atI_5, atI_6, atI_7, ixN_50, ixN_51, ixN_52, ixN_53, ixN_54, ixN_30, ixN_31, ixN_32, put_same, put_put, true_and, and_true, decide_true, decide_false, Bool.not_true, Bool.not_false, Bool.false_eq_true, if_true, if_false, decide_eq_true_eq, Bool.not_eq_true', decide_eq_false_iff_not, mem_one, ex_one, and_self, i_Disk, l_Disk, h_Disk_write, h_Disk_sync, h_Disk_blocks, h_Disk_synced, h_Disk_cut, h_Disk_drop, h_Disk_copy, g_Disk_rows, p_Disk_rows, k_Disk_rows, g_Disk_lasting, p_Disk_lasting, k_Disk_lasting]
  refine isi_tuple hk.1 ?_
  cases d with
  | tup ks =>
    simp only [dSeq, dAsg, dRet, dRetN, dDrop, dRaise, dBreak, dCont, dPar, dAug, dFor, dNext, dSetF, dAugF, dRaiseF, dIfS, dTest, dOp, dVar, dC, dCB, dCons, dNil, dCall, dAndV, dOrV, dNotV, dAndT, dOrT, dNotT, dIf, dTup, dLst, dLstV, dSl, dSlV, rdSlV, oSome, oNone, dNeg, gN, gT, gConsD, gNilD, gSubD, gFldD, dChain, dLc, dBM, isLst, iSeqD, iR1, iR2, iR3, dYes, rdAddV, rdMulV, rdSub, rdDiv, rdMod, rdPow, rdIAdd, rdCmp, rdIsN, isn_non, isn_bl, isn_int, isn_str, isn_ref, isn_tup, isn_rol, isn_obj, rdEqG, rdIx_tup, rdIx_rol, rdIx_put, rdSet, rdLen_tup, rdLen_rol, rdLen_str, rdLen_put, rdInt1, rdInt, rdInt2, rdAppend, rdExt, rdPopAt, rdMaxL, rdMinL, rdListV, rdIsB, isBlV, rdStrI, rdIntS, dFrz, dFld, insOf_put, dMeth, lstOf_rol, lstOf_put, seqOf_tup, seqOf_rol, seqOf_put, frz_tup, frz_rol, frz_int, frz_bl, frz_non, frz_str, frz_obj, startN, wipeD, List.map_cons, List.map_nil, List.length_cons, List.length_nil, Nat.zero_add, Nat.sub_self, Nat.reduceAdd, Nat.reduceSub, List.replicate_succ, List.replicate_zero, List.cons_append, List.nil_append, List.append_nil, List.getElem?_cons_zero, List.getElem?_cons_succ, List.set_cons_zero, List.set_cons_succ, Option.some.injEq, exists_eq_left', DEnds.xd, atI_0, atI_1, atI_2, atI_3, atI_4, atI_5, atI_6, atI_7, ixN_50, ixN_51, ixN_52, ixN_53, ixN_54, ixN_30, ixN_31, ixN_32, put_same, put_put, true_and, and_true, decide_true, decide_false, Bool.not_true, Bool.not_false, Bool.false_eq_true, if_true, if_false, decide_eq_true_eq, Bool.not_eq_true', decide_eq_false_iff_not, mem_one, ex_one, and_self, i_Disk, l_Disk, h_Disk_write, h_Disk_sync, h_Disk_blocks, h_Disk_synced, h_Disk_cut, h_Disk_drop, h_Disk_copy, g_Disk_rows, p_Disk_rows, k_Disk_rows, g_Disk_lasting, p_Disk_lasting, k_Disk_lasting, isTup, rdLen_ref hb]
    rw [if_neg (by decide)]
    generalize hw : rows.drop l = ws
    rw [hw] at h
    have hwl : ws.length = rows.length - l := by rw [← hw, List.length_drop]
    have hcut : cutOk ws (.tup ks) = (decide (ks.length = ws.length) && (pairs ks (ws.map tb)).all fB) := rfl
    rw [hcut] at h
    by_cases hkl : ks.length = ws.length
    · rw [decide_eq_true hkl, Bool.true_and] at h
      rw [if_neg (by rw [List.length_map]; omega)]
      simp only [dSeq, dAsg, dRet, dRetN, dDrop, dRaise, dBreak, dCont, dPar, dAug, dFor, dNext, dSetF, dAugF, dRaiseF, dIfS, dTest, dOp, dVar, dC, dCB, dCons, dNil, dCall, dAndV, dOrV, dNotV, dAndT, dOrT, dNotT, dIf, dTup, dLst, dLstV, dSl, dSlV, rdSlV, oSome, oNone, dNeg, gN, gT, gConsD, gNilD, gSubD, gFldD, dChain, dLc, dBM, isLst, iSeqD, iR1, iR2, iR3, dYes, rdAddV, rdMulV, rdSub, rdDiv, rdMod, rdPow, rdIAdd, rdCmp, rdIsN, isn_non, isn_bl, isn_int, isn_str, isn_ref, isn_tup, isn_rol, isn_obj, rdEqG, rdIx_tup, rdIx_rol, rdIx_put, rdSet, rdLen_tup, rdLen_rol, rdLen_str, rdLen_put, rdInt1, rdInt, rdInt2, rdAppend, rdExt, rdPopAt, rdMaxL, rdMinL, rdListV, rdIsB, isBlV, rdStrI, rdIntS, dFrz, dFld, insOf_put, dMeth, lstOf_rol, lstOf_put, seqOf_tup, seqOf_rol, seqOf_put, frz_tup, frz_rol, frz_int, frz_bl, frz_non, frz_str, frz_obj, startN, wipeD, List.map_cons, List.map_nil, List.length_cons, List.length_nil, Nat.zero_add, Nat.sub_self, Nat.reduceAdd, Nat.reduceSub, List.replicate_succ, List.replicate_zero, List.cons_append, List.nil_append, List.append_nil, List.getElem?_cons_zero, List.getElem?_cons_succ, List.set_cons_zero, List.set_cons_succ, Option.some.injEq, exists_eq_left', DEnds.xd, atI_0, atI_1, atI_2, atI_3, atI_4, atI_5, atI_6, atI_7, ixN_50, ixN_51, ixN_52, ixN_53, ixN_54, ixN_30, ixN_31, ixN_32, put_same, put_put, true_and, and_true, decide_true, decide_false, Bool.not_true, Bool.not_false, Bool.false_eq_true, if_true, if_false, decide_eq_true_eq, Bool.not_eq_true', decide_eq_false_iff_not, mem_one, ex_one, and_self, i_Disk, l_Disk, h_Disk_write, h_Disk_sync, h_Disk_blocks, h_Disk_synced, h_Disk_cut, h_Disk_drop, h_Disk_copy, g_Disk_rows, p_Disk_rows, k_Disk_rows, g_Disk_lasting, p_Disk_lasting, k_Disk_lasting, iZipM, lstOf_ref hb]
      rw [cut_drop2, hw]
      refine ⟨ks, ws.map tb, rfl, rfl, ?_⟩
      refine for_go (fun j ρ T => T = S ∧ ((pairs ks (ws.map tb)).take j).all fB = true ∧ ∃ y3 y4, ρ = [some (.ref b), some (.int (l : Nat)), some (.tup ks), y3, y4]) ⟨rfl, rfl, _, _, rfl⟩ (fun _ _ _ _ hw => ⟨rfl, rfl⟩) (fun j z ρ T hz hw => ?_) fun ρ T hw => ?_
      · obtain ⟨rfl, ha, y3, y4, rfl⟩ := hw
        obtain ⟨k, y, hk1, hy, rfl⟩ := pairs_get hz
        obtain ⟨w, hw1, rfl⟩ := mem_tb (List.mem_of_getElem? hy)
        have hkk := hk.2 k (List.mem_of_getElem? hk1)
        have en : ((pairs ks (ws.map tb)).take (j + 1)).all fB = within k 0 ((List.map Dv.int w).length : Nat) := by
          rw [List.take_add_one, hz, List.all_append, ha, Bool.true_and]
          show (fB (.tup [k, .tup (List.map Dv.int w)]) && true) = _
          rw [Bool.and_true]
          rfl
        have no : within k 0 ((List.map Dv.int w).length : Nat) = false → (pairs ks (ws.map tb)).all fB = false := fun e => by
          rw [← en] at e
          cases e2 : (pairs ks (ws.map tb)).all fB with
          | false => rfl
          | true =>
            rw [List.all_eq_false] at e
            obtain ⟨q, hq, nq⟩ := e
            exact (nq (List.all_eq_true.mp e2 q (List.mem_of_mem_take hq))).elim
        simp only [dSeq, dAsg, dRet, dRetN, dDrop, dRaise, dBreak, dCont, dPar, dAug, dFor, dNext, dSetF, dAugF, dRaiseF, dIfS, dTest, dOp, dVar, dC, dCB, dCons, dNil, dCall, dAndV, dOrV, dNotV, dAndT, dOrT, dNotT, dIf, dTup, dLst, dLstV, dSl, dSlV, rdSlV, oSome, oNone, dNeg, gN, gT, gConsD, gNilD, gSubD, gFldD, dChain, dLc, dBM, isLst, iSeqD, iR1, iR2, iR3, dYes, rdAddV, rdMulV, rdSub, rdDiv, rdMod, rdPow, rdIAdd, rdCmp, rdIsN, isn_non, isn_bl, isn_int, isn_str, isn_ref, isn_tup, isn_rol, isn_obj, rdEqG, rdIx_tup, rdIx_rol, rdIx_put, rdSet, rdLen_tup, rdLen_rol, rdLen_str, rdLen_put, rdInt1, rdInt, rdInt2, rdAppend, rdExt, rdPopAt, rdMaxL, rdMinL, rdListV, rdIsB, isBlV, rdStrI, rdIntS, dFrz, dFld, insOf_put, dMeth, lstOf_rol, lstOf_put, seqOf_tup, seqOf_rol, seqOf_put, frz_tup, frz_rol, frz_int, frz_bl, frz_non, frz_str, frz_obj, startN, wipeD, List.map_cons, List.map_nil, List.length_cons, List.length_nil, Nat.zero_add, Nat.sub_self, Nat.reduceAdd, Nat.reduceSub, List.replicate_succ, List.replicate_zero, List.cons_append, List.nil_append, List.append_nil, List.getElem?_cons_zero, List.getElem?_cons_succ, List.set_cons_zero, List.set_cons_succ, Option.some.injEq, exists_eq_left', DEnds.xd, atI_0, atI_1, atI_2, atI_3, atI_4, atI_5, atI_6, atI_7, ixN_50, ixN_51, ixN_52, ixN_53, ixN_54, ixN_30, ixN_31, ixN_32, put_same, put_put, true_and, and_true, decide_true, decide_false, Bool.not_true, Bool.not_false, Bool.false_eq_true, if_true, if_false, decide_eq_true_eq, Bool.not_eq_true', decide_eq_false_iff_not, mem_one, ex_one, and_self, i_Disk, l_Disk, h_Disk_write, h_Disk_sync, h_Disk_blocks, h_Disk_synced, h_Disk_cut, h_Disk_drop, h_Disk_copy, g_Disk_rows, p_Disk_rows, k_Disk_rows, g_Disk_lasting, p_Disk_lasting, k_Disk_lasting]
        refine isi_int hkk ?_
        cases k with
        | int i =>
          simp only [dSeq, dAsg, dRet, dRetN, dDrop, dRaise, dBreak, dCont, dPar, dAug, dFor, dNext, dSetF, dAugF, dRaiseF, dIfS, dTest, dOp, dVar, dC, dCB, dCons, dNil, dCall, dAndV, dOrV, dNotV, dAndT, dOrT, dNotT, dIf, dTup, dLst, dLstV, dSl, dSlV, rdSlV, oSome, oNone, dNeg, gN, gT, gConsD, gNilD, gSubD, gFldD, dChain, dLc, dBM, isLst, iSeqD, iR1, iR2, iR3, dYes, rdAddV, rdMulV, rdSub, rdDiv, rdMod, rdPow, rdIAdd, rdCmp, rdIsN, isn_non, isn_bl, isn_int, isn_str, isn_ref, isn_tup, isn_rol, isn_obj, rdEqG, rdIx_tup, rdIx_rol, rdIx_put, rdSet, rdLen_tup, rdLen_rol, rdLen_str, rdLen_put, rdInt1, rdInt, rdInt2, rdAppend, rdExt, rdPopAt, rdMaxL, rdMinL, rdListV, rdIsB, isBlV, rdStrI, rdIntS, dFrz, dFld, insOf_put, dMeth, lstOf_rol, lstOf_put, seqOf_tup, seqOf_rol, seqOf_put, frz_tup, frz_rol, frz_int, frz_bl, frz_non, frz_str, frz_obj, startN, wipeD, List.map_cons, List.map_nil, List.length_cons, List.length_nil, Nat.zero_add, Nat.sub_self, Nat.reduceAdd, Nat.reduceSub, List.replicate_succ, List.replicate_zero, List.cons_append, List.nil_append, List.append_nil, List.getElem?_cons_zero, List.getElem?_cons_succ, List.set_cons_zero, List.set_cons_succ, Option.some.injEq, exists_eq_left', DEnds.xd, atI_0, atI_1, atI_2, atI_3, atI_4, atI_5, atI_6, atI_7, ixN_50, ixN_51, ixN_52, ixN_53, ixN_54, ixN_30, ixN_31, ixN_32, put_same, put_put, true_and, and_true, decide_true, decide_false, Bool.not_true, Bool.not_false, Bool.false_eq_true, if_true, if_false, decide_eq_true_eq, Bool.not_eq_true', decide_eq_false_iff_not, mem_one, ex_one, and_self, i_Disk, l_Disk, h_Disk_write, h_Disk_sync, h_Disk_blocks, h_Disk_synced, h_Disk_cut, h_Disk_drop, h_Disk_copy, g_Disk_rows, p_Disk_rows, k_Disk_rows, g_Disk_lasting, p_Disk_lasting, k_Disk_lasting, isInt, isBl, Bool.or_false]
          rw [if_neg (by decide)]
          refine isi_bool hkk ?_
          simp only [dSeq, dAsg, dRet, dRetN, dDrop, dRaise, dBreak, dCont, dPar, dAug, dFor, dNext, dSetF, dAugF, dRaiseF, dIfS, dTest, dOp, dVar, dC, dCB, dCons, dNil, dCall, dAndV, dOrV, dNotV, dAndT, dOrT, dNotT, dIf, dTup, dLst, dLstV, dSl, dSlV, rdSlV, oSome, oNone, dNeg, gN, gT, gConsD, gNilD, gSubD, gFldD, dChain, dLc, dBM, isLst, iSeqD, iR1, iR2, iR3, dYes, rdAddV, rdMulV, rdSub, rdDiv, rdMod, rdPow, rdIAdd, rdCmp, rdIsN, isn_non, isn_bl, isn_int, isn_str, isn_ref, isn_tup, isn_rol, isn_obj, rdEqG, rdIx_tup, rdIx_rol, rdIx_put, rdSet, rdLen_tup, rdLen_rol, rdLen_str, rdLen_put, rdInt1, rdInt, rdInt2, rdAppend, rdExt, rdPopAt, rdMaxL, rdMinL, rdListV, rdIsB, isBlV, rdStrI, rdIntS, dFrz, dFld, insOf_put, dMeth, lstOf_rol, lstOf_put, seqOf_tup, seqOf_rol, seqOf_put, frz_tup, frz_rol, frz_int, frz_bl, frz_non, frz_str, frz_obj, startN, wipeD, List.map_cons, List.map_nil, List.length_cons, List.length_nil, Nat.zero_add, Nat.sub_self, Nat.reduceAdd, Nat.reduceSub, List.replicate_succ, List.replicate_zero, List.cons_append, List.nil_append, List.append_nil, List.getElem?_cons_zero, List.getElem?_cons_succ, List.set_cons_zero, List.set_cons_succ, Option.some.injEq, exists_eq_left', DEnds.xd, atI_0, atI_1, atI_2, atI_3, atI_4, atI_5, atI_6, atI_7, ixN_50, ixN_51, ixN_52, ixN_53, ixN_54, ixN_30, ixN_31, ixN_32, put_same, put_put, true_and, and_true, decide_true, decide_false, Bool.not_true, Bool.not_false, Bool.false_eq_true, if_true, if_false, decide_eq_true_eq, Bool.not_eq_true', decide_eq_false_iff_not, mem_one, ex_one, and_self, i_Disk, l_Disk, h_Disk_write, h_Disk_sync, h_Disk_blocks, h_Disk_synced, h_Disk_cut, h_Disk_drop, h_Disk_copy, g_Disk_rows, p_Disk_rows, k_Disk_rows, g_Disk_lasting, p_Disk_lasting, k_Disk_lasting, isBl]
          have ei : within (.int i) 0 ((List.map Dv.int w).length : Nat) = (decide (0 ≤ i) && decide (i ≤ ((List.map Dv.int w).length : Nat))) := rfl
          by_cases h1 : 0 ≤ i
          · rw [decide_eq_true h1]
            dsimp only
            by_cases h2 : i ≤ ((List.map Dv.int w).length : Nat)
            · rw [if_neg (fun z => z h2)]
              exact ⟨by rw [en, ei, decide_eq_true h1, decide_eq_true h2]; rfl, _, _, rfl⟩
            · rw [if_pos h2]
              rw [no (by rw [ei, decide_eq_false h2, Bool.and_false])] at h
              exact h
          · rw [decide_eq_false h1]
            dsimp only
            rw [no (by rw [ei, decide_eq_false h1, Bool.false_and])] at h
            exact h
        | bl b =>
          simp only [dSeq, dAsg, dRet, dRetN, dDrop, dRaise, dBreak, dCont, dPar, dAug, dFor, dNext, dSetF, dAugF, dRaiseF, dIfS, dTest, dOp, dVar, dC, dCB, dCons, dNil, dCall, dAndV, dOrV, dNotV, dAndT, dOrT, dNotT, dIf, dTup, dLst, dLstV, dSl, dSlV, rdSlV, oSome, oNone, dNeg, gN, gT, gConsD, gNilD, gSubD, gFldD, dChain, dLc, dBM, isLst, iSeqD, iR1, iR2, iR3, dYes, rdAddV, rdMulV, rdSub, rdDiv, rdMod, rdPow, rdIAdd, rdCmp, rdIsN, isn_non, isn_bl, isn_int, isn_str, isn_ref, isn_tup, isn_rol, isn_obj, rdEqG, rdIx_tup, rdIx_rol, rdIx_put, rdSet, rdLen_tup, rdLen_rol, rdLen_str, rdLen_put, rdInt1, rdInt, rdInt2, rdAppend, rdExt, rdPopAt, rdMaxL, rdMinL, rdListV, rdIsB, isBlV, rdStrI, rdIntS, dFrz, dFld, insOf_put, dMeth, lstOf_rol, lstOf_put, seqOf_tup, seqOf_rol, seqOf_put, frz_tup, frz_rol, frz_int, frz_bl, frz_non, frz_str, frz_obj, startN, wipeD, List.map_cons, List.map_nil, List.length_cons, List.length_nil, Nat.zero_add, Nat.sub_self, Nat.reduceAdd, Nat.reduceSub, List.replicate_succ, List.replicate_zero, List.cons_append, List.nil_append, List.append_nil, List.getElem?_cons_zero, List.getElem?_cons_succ, List.set_cons_zero, List.set_cons_succ, Option.some.injEq, exists_eq_left', DEnds.xd, atI_0, atI_1, atI_2, atI_3, atI_4, atI_5, atI_6, atI_7, ixN_50, ixN_51, ixN_52, ixN_53, ixN_54, ixN_30, ixN_31, ixN_32, put_same, put_put, true_and, and_true, decide_true, decide_false, Bool.not_true, Bool.not_false, Bool.false_eq_true, if_true, if_false, decide_eq_true_eq, Bool.not_eq_true', decide_eq_false_iff_not, mem_one, ex_one, and_self, i_Disk, l_Disk, h_Disk_write, h_Disk_sync, h_Disk_blocks, h_Disk_synced, h_Disk_cut, h_Disk_drop, h_Disk_copy, g_Disk_rows, p_Disk_rows, k_Disk_rows, g_Disk_lasting, p_Disk_lasting, k_Disk_lasting, isInt, isBl, Bool.or_true]
          rw [if_neg (by decide)]
          refine isi_bool hkk ?_
          simp only [dSeq, dAsg, dRet, dRetN, dDrop, dRaise, dBreak, dCont, dPar, dAug, dFor, dNext, dSetF, dAugF, dRaiseF, dIfS, dTest, dOp, dVar, dC, dCB, dCons, dNil, dCall, dAndV, dOrV, dNotV, dAndT, dOrT, dNotT, dIf, dTup, dLst, dLstV, dSl, dSlV, rdSlV, oSome, oNone, dNeg, gN, gT, gConsD, gNilD, gSubD, gFldD, dChain, dLc, dBM, isLst, iSeqD, iR1, iR2, iR3, dYes, rdAddV, rdMulV, rdSub, rdDiv, rdMod, rdPow, rdIAdd, rdCmp, rdIsN, isn_non, isn_bl, isn_int, isn_str, isn_ref, isn_tup, isn_rol, isn_obj, rdEqG, rdIx_tup, rdIx_rol, rdIx_put, rdSet, rdLen_tup, rdLen_rol, rdLen_str, rdLen_put, rdInt1, rdInt, rdInt2, rdAppend, rdExt, rdPopAt, rdMaxL, rdMinL, rdListV, rdIsB, isBlV, rdStrI, rdIntS, dFrz, dFld, insOf_put, dMeth, lstOf_rol, lstOf_put, seqOf_tup, seqOf_rol, seqOf_put, frz_tup, frz_rol, frz_int, frz_bl, frz_non, frz_str, frz_obj, startN, wipeD, List.map_cons, List.map_nil, List.length_cons, List.length_nil, Nat.zero_add, Nat.sub_self, Nat.reduceAdd, Nat.reduceSub, List.replicate_succ, List.replicate_zero, List.cons_append, List.nil_append, List.append_nil, List.getElem?_cons_zero, List.getElem?_cons_succ, List.set_cons_zero, List.set_cons_succ, Option.some.injEq, exists_eq_left', DEnds.xd, atI_0, atI_1, atI_2, atI_3, atI_4, atI_5, atI_6, atI_7, ixN_50, ixN_51, ixN_52, ixN_53, ixN_54, ixN_30, ixN_31, ixN_32, put_same, put_put, true_and, and_true, decide_true, decide_false, Bool.not_true, Bool.not_false, Bool.false_eq_true, if_true, if_false, decide_eq_true_eq, Bool.not_eq_true', decide_eq_false_iff_not, mem_one, ex_one, and_self, i_Disk, l_Disk, h_Disk_write, h_Disk_sync, h_Disk_blocks, h_Disk_synced, h_Disk_cut, h_Disk_drop, h_Disk_copy, g_Disk_rows, p_Disk_rows, k_Disk_rows, g_Disk_lasting, p_Disk_lasting, k_Disk_lasting, isBl]
          rw [no rfl] at h
          exact h
        | _ =>
          simp only [dSeq, dAsg, dRet, dRetN, dDrop, dRaise, dBreak, dCont, dPar, dAug, dFor, dNext, dSetF, dAugF, dRaiseF, dIfS, dTest, dOp, dVar, dC, dCB, dCons, dNil, dCall, dAndV, dOrV, dNotV, dAndT, dOrT, dNotT, dIf, dTup, dLst, dLstV, dSl, dSlV, rdSlV, oSome, oNone, dNeg, gN, gT, gConsD, gNilD, gSubD, gFldD, dChain, dLc, dBM, isLst, iSeqD, iR1, iR2, iR3, dYes, rdAddV, rdMulV, rdSub, rdDiv, rdMod, rdPow, rdIAdd, rdCmp, rdIsN, isn_non, isn_bl, isn_int, isn_str, isn_ref, isn_tup, isn_rol, isn_obj, rdEqG, rdIx_tup, rdIx_rol, rdIx_put, rdSet, rdLen_tup, rdLen_rol, rdLen_str, rdLen_put, rdInt1, rdInt, rdInt2, rdAppend, rdExt, rdPopAt, rdMaxL, rdMinL, rdListV, rdIsB, isBlV, rdStrI, rdIntS, dFrz, dFld, insOf_put, dMeth, lstOf_rol, lstOf_put, seqOf_tup, seqOf_rol, seqOf_put, frz_tup, frz_rol, frz_int, frz_bl, frz_non, frz_str, frz_obj, startN, wipeD, List.map_cons, List.map_nil, List.length_cons, List.length_nil, Nat.zero_add, Nat.sub_self, Nat.reduceAdd, Nat.reduceSub, List.replicate_succ, List.replicate_zero, List.cons_append, List.nil_append, List.append_nil, List.getElem?_cons_zero, List.getElem?_cons_succ, List.set_cons_zero, List.set_cons_succ, Option.some.injEq, exists_eq_left', DEnds.xd, atI_0, atI_1, atI_2, atI_3, atI_4, atI_5, atI_6, atI_7, ixN_50, ixN_51, ixN_52, ixN_53, ixN_54, ixN_30, ixN_31, ixN_32, put_same, put_put, true_and, and_true, decide_true, decide_false, Bool.not_true, Bool.not_false, Bool.false_eq_true, if_true, if_false, decide_eq_true_eq, Bool.not_eq_true', decide_eq_false_iff_not, mem_one, ex_one, and_self, i_Disk, l_Disk, h_Disk_write, h_Disk_sync, h_Disk_blocks, h_Disk_synced, h_Disk_cut, h_Disk_drop, h_Disk_copy, g_Disk_rows, p_Disk_rows, k_Disk_rows, g_Disk_lasting, p_Disk_lasting, k_Disk_lasting, isInt, isBl, Bool.or_false]
          rw [no rfl] at h
          exact h
      · obtain ⟨rfl, ha, y3, y4, rfl⟩ := hw
        rw [List.take_length] at ha
        rw [ha] at h
        simp only [dSeq, dAsg, dRet, dRetN, dDrop, dRaise, dBreak, dCont, dPar, dAug, dFor, dNext, dSetF, dAugF, dRaiseF, dIfS, dTest, dOp, dVar, dC, dCB, dCons, dNil, dCall, dAndV, dOrV, dNotV, dAndT, dOrT, dNotT, dIf, dTup, dLst, dLstV, dSl, dSlV, rdSlV, oSome, oNone, dNeg, gN, gT, gConsD, gNilD, gSubD, gFldD, dChain, dLc, dBM, isLst, iSeqD, iR1, iR2, iR3, dYes, rdAddV, rdMulV, rdSub, rdDiv, rdMod, rdPow, rdIAdd, rdCmp, rdIsN, isn_non, isn_bl, isn_int, isn_str, isn_ref, isn_tup, isn_rol, isn_obj, rdEqG, rdIx_tup, rdIx_rol, rdIx_put, rdSet, rdLen_tup, rdLen_rol, rdLen_str, rdLen_put, rdInt1, rdInt, rdInt2, rdAppend, rdExt, rdPopAt, rdMaxL, rdMinL, rdListV, rdIsB, isBlV, rdStrI, rdIntS, dFrz, dFld, insOf_put, dMeth, lstOf_rol, lstOf_put, seqOf_tup, seqOf_rol, seqOf_put, frz_tup, frz_rol, frz_int, frz_bl, frz_non, frz_str, frz_obj, startN, wipeD, List.map_cons, List.map_nil, List.length_cons, List.length_nil, Nat.zero_add, Nat.sub_self, Nat.reduceAdd, Nat.reduceSub, List.replicate_succ, List.replicate_zero, List.cons_append, List.nil_append, List.append_nil, List.getElem?_cons_zero, List.getElem?_cons_succ, List.set_cons_zero, List.set_cons_succ, Option.some.injEq, exists_eq_left', DEnds.xd, atI_0, atI_1, atI_2, atI_3, atI_4, atI_5, atI_6, atI_7, ixN_50, ixN_51, ixN_52, ixN_53, ixN_54, ixN_30, ixN_31, ixN_32, put_same, put_put, true_and, and_true, decide_true, decide_false, Bool.not_true, Bool.not_false, Bool.false_eq_true, if_true, if_false, decide_eq_true_eq, Bool.not_eq_true', decide_eq_false_iff_not, mem_one, ex_one, and_self, i_Disk, l_Disk, h_Disk_write, h_Disk_sync, h_Disk_blocks, h_Disk_synced, h_Disk_cut, h_Disk_drop, h_Disk_copy, g_Disk_rows, p_Disk_rows, k_Disk_rows, g_Disk_lasting, p_Disk_lasting, k_Disk_lasting]
        exact h
    · rw [if_pos (by rw [List.length_map]; omega)]
      rw [decide_eq_false hkl, Bool.false_and] at h
      exact h
  | _ => simp only [dSeq, dAsg, dRet, dRetN, dDrop, dRaise, dBreak, dCont, dPar, dAug, dFor, dNext, dSetF, dAugF, dRaiseF, dIfS, dTest, dOp, dVar, dC, dCB, dCons, dNil, dCall, dAndV, dOrV, dNotV, dAndT, dOrT, dNotT, dIf, dTup, dLst, dLstV, dSl, dSlV, rdSlV, oSome, oNone, dNeg, gN, gT, gConsD, gNilD, gSubD, gFldD, dChain, dLc, dBM, isLst, iSeqD, iR1, iR2, iR3, dYes, rdAddV, rdMulV, rdSub, rdDiv, rdMod, rdPow, rdIAdd, rdCmp, rdIsN, isn_non, isn_bl, isn_int, isn_str, isn_ref, isn_tup, isn_rol, isn_obj, rdEqG, rdIx_tup, rdIx_rol, rdIx_put, rdSet, rdLen_tup, rdLen_rol, rdLen_str, rdLen_put, rdInt1, rdInt, rdInt2, rdAppend, rdExt, rdPopAt, rdMaxL, rdMinL, rdListV, rdIsB, isBlV, rdStrI, rdIntS, dFrz, dFld, insOf_put, dMeth, lstOf_rol, lstOf_put, seqOf_tup, seqOf_rol, seqOf_put, frz_tup, frz_rol, frz_int, frz_bl, frz_non, frz_str, frz_obj, startN, wipeD, List.map_cons, List.map_nil, List.length_cons, List.length_nil, Nat.zero_add, Nat.sub_self, Nat.reduceAdd, Nat.reduceSub, List.replicate_succ, List.replicate_zero, List.cons_append, List.nil_append, List.append_nil, List.getElem?_cons_zero, List.getElem?_cons_succ, List.set_cons_zero, List.set_cons_succ, Option.some.injEq, exists_eq_left', DEnds.xd, atI_0, atI_1, atI_2, atI_3, atI_4, atI_5, atI_6, atI_7, ixN_50, ixN_51, ixN_52, ixN_53, ixN_54, ixN_30, ixN_31, ixN_32, put_same, put_put, true_and, and_true, decide_true, decide_false, Bool.not_true, Bool.not_false, Bool.false_eq_true, if_true, if_false, decide_eq_true_eq, Bool.not_eq_true', decide_eq_false_iff_not, mem_one, ex_one, and_self, i_Disk, l_Disk, h_Disk_write, h_Disk_sync, h_Disk_blocks, h_Disk_synced, h_Disk_cut, h_Disk_drop, h_Disk_copy, g_Disk_rows, p_Disk_rows, k_Disk_rows, g_Disk_lasting, p_Disk_lasting, k_Disk_lasting, isTup]; exact h
/-- known, whatever is laid later; no long tuple -/
def Tame (A : Ad) (S : Sto) (n : Nat) (d : Dv) : Prop := (∀ T, VD.Sub S T → knownL A T d) ∧ ∀ ys, d = .tup ys → ys.length ≤ n
theorem Tame.pl {A : Ad} {S : Sto} {n : Nat} {d : Dv} (h : isPl d = true) (k : isTup d = false) : Tame A S n d := ⟨fun T _ => ⟨kn_pl h, by cases d <;> first | trivial | cases k⟩, fun ys e => by subst e; cases k⟩
theorem Tame.tup {A : Ad} {S : Sto} {n : Nat} {ys : List Dv} (h : ys.length ≤ n) (k : ∀ y ∈ ys, isPl y = true) : Tame A S n (.tup ys) := ⟨fun T _ => ⟨kn_tup, fun y hy => kn_pl (k y hy)⟩, fun zs e => by cases e; exact h⟩
theorem Tame.mono {A : Ad} {S T : Sto} {n m : Nat} {d : Dv} (h : Tame A S n d) (l : n ≤ m) (s : VD.Sub S T) : Tame A T m d := ⟨fun U u => h.1 U fun p q e => u p q (s p q e), fun ys e => Nat.le_trans (h.2 ys e) l⟩
theorem pl_ints {xs : List Int} : ∀ y ∈ xs.map Dv.int, isPl y = true := fun y hy => by
  obtain ⟨i, _, rfl⟩ := List.mem_map.mp hy
  rfl
theorem pl_deep : ∀ n, isPl (deepD n) = true
  | 0 => rfl
  | _ + 1 => rfl
theorem tup_deep : ∀ n, isTup (deepD n) = false
  | 0 => rfl
  | _ + 1 => rfl
def sp__law_odd (A : Ad) : SpD := fun ds S Q _ => ∃ (a c : Addr) (B : Sto) (xs : List Int), ds = [.ref a, .tup (xs.map Dv.int)] ∧ IsH a c B S ∧ xs.length ≤ 1000 ∧ ∀ d B' S', VD.Sub B B' → IsH a c B' S' → Tame A S' (xs.length + 1) d → Q d S'
theorem len__law_odd (A : Ad) : ∀ ds S Q X, sp__law_odd A ds S Q X → ds.length = 2 := by rintro _ _ _ _ ⟨_, _, _, _, rfl, _⟩; rfl
def r__law_odd (A : Ad) : DS := (dSeq (dAsg (dCall (sp__law_draw A) (dCons (dVar 0) (dCons (dOp rdAddV (dCB rdLen (dCons (dVar 1) dNil)) (dC (.int 1))) dNil))) (gN 2))
    (dSeq (dAsg (dOp rdIx (dLstV (dCons (dC (.int 256)) (dCons (dNeg (dC (.int 1))) (dCons (dC (.bl true)) (dCons (dC .non) (dCons (dC (.str (Str.ofString "0"))) (dCons (dTup (dCons (dC (.int 0)) dNil)) (dCons (dOp rdPow (dC (.int 10)) (dC (.int 19))) (dCons (dCall (sp__law_deep A) dNil) (dCons (dC (.int 300)) dNil)))))))))) (dCall (sp__law_draw A) (dCons (dVar 0) (dCons (dC (.int 9)) dNil)))) (gN 3))
    (dRet (dOp rdIx (dLstV (dCons (dOp rdAddV (dOp rdAddV (dSlV (dVar 1) oNone (oSome (dVar 2))) (dTup (dCons (dVar 3) dNil))) (dSlV (dVar 1) (oSome (dOp rdAddV (dVar 2) (dC (.int 1)))) oNone)) (dCons (dCB rdListV (dCons (dVar 1) dNil)) (dCons (dOp rdAddV (dVar 1) (dTup (dCons (dVar 3) dNil))) (dCons (dC .non) (dCons (dVar 3) (dCons (dC (.str (Str.ofString "row"))) (dCons dDict0 dNil)))))))) (dCall (sp__law_draw A) (dCons (dVar 0) (dCons (dC (.int 7)) dNil)))))))
theorem rd__law_odd (A : Ad) : Rd (r__law_odd A) 4 (sp__law_odd A) := by
  rintro ds S Q X ⟨a, c, B, xs, rfl, hH, hl, h⟩
  unfold r__law_odd
  simp only [dSeq, dAsg, dRet, dRetN, dDrop, dRaise, dBreak, dCont, dPar, dAug, dFor, dNext, dSetF, dAugF, dRaiseF, dIfS, dTest, dOp, dVar, dC, dCB, dCons, dNil, dCall, dAndV, dOrV, dNotV, dAndT, dOrT, dNotT, dIf, dTup, dLst, dLstV, dSl, dSlV, rdSlV, oSome, oNone, dNeg, gN, gT, gConsD, gNilD, gSubD, gFldD, dChain, dLc, dBM, isLst, iSeqD, iR1, iR2, iR3, dYes, rdAddV, rdMulV, rdSub, rdDiv, rdMod, rdPow, rdIAdd, rdCmp, rdIsN, isn_non, isn_bl, isn_int, isn_str, isn_ref, isn_tup, isn_rol, isn_obj, rdEqG, rdIx_tup, rdIx_rol, rdIx_put, rdSet, rdLen_tup, rdLen_rol, rdLen_str, rdLen_put, rdInt1, rdInt, rdInt2, rdAppend, rdExt, rdPopAt, rdMaxL, rdMinL, rdListV, rdIsB, isBlV, rdStrI, rdIntS, dFrz, dFld, insOf_put, dMeth, lstOf_rol, lstOf_put, seqOf_tup, seqOf_rol, seqOf_put, frz_tup, frz_rol, frz_int, frz_bl, frz_non, frz_str, frz_obj, startN, wipeD, List.map_cons, List.map_nil, List.length_cons, List.length_nil, Nat.zero_add, Nat.sub_self, Nat.reduceAdd, Nat.reduceSub, List.replicate_succ, List.replicate_zero, List.cons_append, List.nil_append, List.append_nil, List.getElem?_cons_zero, List.getElem?_cons_succ, List.set_cons_zero, List.set_cons_succ, Option.some.injEq, exists_eq_left', DEnds.xd, atI_0, atI_1, atI_2, atI_3, atI_4, atI_5, atI_6, atI_7, ixN_50, ixN_51, ixN_52, ixN_53, ixN_54, ixN_30, ixN_31, ixN_32, put_same, put_put, true_and, and_true, decide_true, decide_false, Bool.not_true, Bool.not_false, Bool.false_eq_true, if_true, if_false, decide_eq_true_eq, Bool.not_eq_true', decide_eq_false_iff_not, mem_one, ex_one, and_self, i_Disk, l_Disk, h_Disk_write, h_Disk_sync, h_Disk_blocks, h_Disk_synced, h_Disk_cut, h_Disk_drop, h_Disk_copy, g_Disk_rows, p_Disk_rows, k_Disk_rows, g_Disk_lasting, p_Disk_lasting, k_Disk_lasting]
  rw [List.length_map]
  refine ask hH (fun r T hT r0 r1 => ?_) (by omega) (by omega)
  obtain ⟨n, rfl⟩ := Int.eq_ofNat_of_zero_le r0
  simp only [dSeq, dAsg, dRet, dRetN, dDrop, dRaise, dBreak, dCont, dPar, dAug, dFor, dNext, dSetF, dAugF, dRaiseF, dIfS, dTest, dOp, dVar, dC, dCB, dCons, dNil, dCall, dAndV, dOrV, dNotV, dAndT, dOrT, dNotT, dIf, dTup, dLst, dLstV, dSl, dSlV, rdSlV, oSome, oNone, dNeg, gN, gT, gConsD, gNilD, gSubD, gFldD, dChain, dLc, dBM, isLst, iSeqD, iR1, iR2, iR3, dYes, rdAddV, rdMulV, rdSub, rdDiv, rdMod, rdPow, rdIAdd, rdCmp, rdIsN, isn_non, isn_bl, isn_int, isn_str, isn_ref, isn_tup, isn_rol, isn_obj, rdEqG, rdIx_tup, rdIx_rol, rdIx_put, rdSet, rdLen_tup, rdLen_rol, rdLen_str, rdLen_put, rdInt1, rdInt, rdInt2, rdAppend, rdExt, rdPopAt, rdMaxL, rdMinL, rdListV, rdIsB, isBlV, rdStrI, rdIntS, dFrz, dFld, insOf_put, dMeth, lstOf_rol, lstOf_put, seqOf_tup, seqOf_rol, seqOf_put, frz_tup, frz_rol, frz_int, frz_bl, frz_non, frz_str, frz_obj, startN, wipeD, List.map_cons, List.map_nil, List.length_cons, List.length_nil, Nat.zero_add, Nat.sub_self, Nat.reduceAdd, Nat.reduceSub, List.replicate_succ, List.replicate_zero, List.cons_append, List.nil_append, List.append_nil, List.getElem?_cons_zero, List.getElem?_cons_succ, List.set_cons_zero, List.set_cons_succ, Option.some.injEq, exists_eq_left', DEnds.xd, atI_0, atI_1, atI_2, atI_3, atI_4, atI_5, atI_6, atI_7, ixN_50, ixN_51, ixN_52, ixN_53, ixN_54, ixN_30, ixN_31, ixN_32, put_same, put_put, true_and, and_true, decide_true, decide_false, Bool.not_true, Bool.not_false, Bool.false_eq_true, if_true, if_false, decide_eq_true_eq, Bool.not_eq_true', decide_eq_false_iff_not, mem_one, ex_one, and_self, i_Disk, l_Disk, h_Disk_write, h_Disk_sync, h_Disk_blocks, h_Disk_synced, h_Disk_cut, h_Disk_drop, h_Disk_copy, g_Disk_rows, p_Disk_rows, k_Disk_rows, g_Disk_lasting, p_Disk_lasting, k_Disk_lasting]
  refine ⟨slK, ⟨by decide, by decide, by decide⟩, rfl, slK, ask_mem hT fun one T hT hm => ?_⟩
  have hone : isPl one = true ∧ ∀ T, Tame A T (xs.length + 1) one := by
    simp only [List.mem_cons, List.not_mem_nil, or_false] at hm
    rcases hm with rfl | rfl | rfl | rfl | rfl | rfl | rfl | rfl | rfl
    all_goals first
      | exact ⟨rfl, fun T => Tame.pl rfl rfl⟩
      | exact ⟨pl_deep _, fun T => Tame.pl (pl_deep _) (tup_deep _)⟩
      | exact ⟨rfl, fun T => Tame.tup (by simp) (by simp [isPl])⟩
  have l1 : (VD.cutD (List.map Dv.int xs) none (some (n : Int))).length ≤ n := by rw [cut_take (by omega), List.length_take]; omega
  have l2 : (VD.cutD (List.map Dv.int xs) (some ((n : Int) + 1)) none).length ≤ xs.length - (n + 1) := by rw [cut_drop (by omega), List.length_drop, List.length_map]; omega
  have m1 : ∀ y ∈ VD.cutD (List.map Dv.int xs) none (some (n : Int)), isPl y = true := fun y hy => by
    rw [cut_take (by omega)] at hy
    exact pl_ints y (List.mem_of_mem_take hy)
  have m2 : ∀ y ∈ VD.cutD (List.map Dv.int xs) (some ((n : Int) + 1)) none, isPl y = true := fun y hy => by
    rw [cut_drop (by omega)] at hy
    exact pl_ints y (List.mem_of_mem_drop hy)
  refine ⟨slK, by rw [sizeLine_eq]; omega, by rw [sizeLine_eq, List.length_append, List.length_singleton]; omega, slK, by rw [sizeLine_eq]; omega, ?_⟩
  unfold dDict0
  intro p hp
  have hN := hT.new (m := .dK []) hp
  refine ⟨slK, ask_mem hN fun d T2 hT2 hm => ?_⟩
  refine h d _ T2 (Sub.new (hT.free hp).2.2) hT2 ?_
  simp only [List.mem_cons, List.not_mem_nil, or_false] at hm
  rcases hm with rfl | rfl | rfl | rfl | rfl | rfl | rfl
  · refine Tame.tup (by rw [List.length_append, List.length_append, List.length_singleton]; omega) fun y hy => ?_
    rcases List.mem_append.mp hy with hy | hy
    · rcases List.mem_append.mp hy with hy | hy
      · exact m1 y hy
      · rw [List.mem_singleton.mp hy]; exact hone.1
    · exact m2 y hy
  · exact Tame.pl rfl rfl
  · refine Tame.tup (by simp) fun y hy => ?_
    rcases List.mem_append.mp hy with hy | hy
    · exact pl_ints y hy
    · rw [List.mem_singleton.mp hy]; exact hone.1
  · exact Tame.pl rfl rfl
  · exact hone.2 _
  · exact Tame.pl rfl rfl
  · refine ⟨fun U hU => ?_, fun ys e => by cases e⟩
    have e : T2 p = some (.dK []) := by rw [hT2.at_ (hT.free hp).1 (hT.free hp).2.1, put_same]
    have e := hU _ _ e
    refine ⟨⟨.type "dict", ?_, fun C z => by cases z⟩, trivial⟩
    unfold VD.tyD
    dsimp only
    rw [e]
end Lw

--CLS Disk
namespace Lw
open PySem PySem.Spec PyProof.Rows L2 VD
structure Led (A : Ad) (S T : Sto) (a c x r b r' : Addr) (rows bs : List (List Int)) (l : Nat) : Prop where
  dk : IsDk A T x r' rows l
  bl : T b = some (.lst (bs.map tb))
  hd : IsH a c T T
  ok : ∀ w ∈ rows, w.length ≤ 8 ∧ Bts w
  br : b ≠ r'
  ra : r' ≠ a
  rc : r' ≠ c
  ba : b ≠ a
  bc : b ≠ c
  new : r' = r ∨ S r' = none
  off : Off S T [a, c, x, r, b]
section
variable {A : Ad} {S T U : Sto} {a c x r b r' : Addr} {rows bs : List (List Int)} {l : Nat}
theorem Led.xa (h : Led A S T a c x r b r' rows bs l) : x ≠ a ∧ x ≠ c ∧ x ≠ b := by
  obtain ⟨dx, e⟩ := h.dk.obj
  obtain ⟨⟨xs, h1⟩, ys, h2⟩ := h.hd.lsts
  refine ⟨fun z => ?_, fun z => ?_, fun z => ?_⟩
  · rw [z, h1] at e; cases e
  · rw [z, h2] at e; cases e
  · rw [z, h.bl] at e; cases e
/-- what stood still stands, the hand aside -/
theorem Led.step {B : Sto} (h : Led A S T a c x r b r' rows bs l) (s : VD.Sub T B) (k : IsH a c B U) : Led A S U a c x r b r' rows bs l := by
  obtain ⟨xa, xc, xb⟩ := h.xa
  obtain ⟨dx, e⟩ := h.dk.obj
  have at_ : ∀ {p : Addr} {m : MO}, T p = some m → p ≠ a → p ≠ c → U p = T p := fun {p m} e h1 h2 => by rw [k.at_ h1 h2, s _ _ e, e]
  refine ⟨h.dk.frame (at_ e xa xc) (at_ h.dk.lst h.ra h.rc), (at_ h.bl h.ba h.bc).trans h.bl, k.self, h.ok, h.br, h.ra, h.rc, h.ba, h.bc, h.new, fun p hp n => ?_⟩
  simp only [List.mem_cons, List.not_mem_nil, or_false, not_or] at n
  have e1 := h.off p hp (by simp [n])
  obtain ⟨m, em⟩ := Option.ne_none_iff_exists'.mp hp
  rw [em] at e1
  rw [at_ e1 n.1 n.2.1, e1, em]
theorem Led.draw (h : Led A S T a c x r b r' rows bs l) (k : IsH a c T U) : Led A S U a c x r b r' rows bs l := h.step (Sub.refl T) k
theorem Led.sub (h : Led A S T a c x r b r' rows bs l) (s : VD.Sub T U) : Led A S U a c x r b r' rows bs l := h.step s (h.hd.subH s)
/-- the disk is led on -/
theorem Led.move (h : Led A S T a c x r b r' rows bs l) {r2 : Addr} {rows2 : List (List Int)} {l2 : Nat} (m : Moved A T U x r' r2 rows2 l2) (ok : ∀ w ∈ rows2, w.length ≤ 8 ∧ Bts w) : Led A S U a c x r b r2 rows2 bs l2 := by
  obtain ⟨xa, xc, xb⟩ := h.xa
  obtain ⟨⟨xs, h1⟩, ys, h2⟩ := h.hd.lsts
  have o : ∀ {p : Addr} {q : MO}, T p = some q → p ≠ x → p ≠ r' → U p = T p := fun {p q} e n1 n2 => m.off p (by rw [e]; simp) (by simp [n1, n2])
  have ne : ∀ {p : Addr} {q : MO}, T p = some q → p ≠ r' → p ≠ r2 := fun {p q} e n z => by
    rcases m.new with w | w
    · exact n (z.trans w)
    · rw [z, w] at e; cases e
  have ea := o h1 xa.symm h.ra.symm
  have ec := o h2 xc.symm h.rc.symm
  have eb := o h.bl xb.symm h.br
  refine ⟨m.dk, eb.trans h.bl, h.hd.off ea ec, ok, ne h.bl h.br, (ne h1 h.ra.symm).symm, (ne h2 h.rc.symm).symm, h.ba, h.bc, ?_, fun p hp n => ?_⟩
  · rcases m.new with w | w
    · rw [w]; exact h.new
    · by_cases z : r2 ∈ [a, c, x, r, b]
      · simp only [List.mem_cons, List.not_mem_nil, or_false] at z
        rcases z with z | z | z | z | z
        · rw [z, h1] at w; cases w
        · rw [z, h2] at w; cases w
        · obtain ⟨dx, e⟩ := h.dk.obj
          rw [z, e] at w; cases w
        · exact .inl z
        · rw [z, h.bl] at w; cases w
      · cases e : S r2 with
        | none => exact .inr rfl
        | some q =>
          have := h.off r2 (by rw [e]; simp) z
          rw [w, e] at this
          cases this
  · have n' := n
    simp only [List.mem_cons, List.not_mem_nil, or_false, not_or] at n'
    have e1 := h.off p hp n
    obtain ⟨q, em⟩ := Option.ne_none_iff_exists'.mp hp
    rw [em] at e1
    have nr : p ≠ r' := fun z => by
      rcases h.new with w | w
      · exact n'.2.2.2.1 (z.trans w)
      · rw [z, w] at em; cases em
    rw [o e1 n'.2.2.1 nr, e1, em]
/-- the account is written -/
theorem Led.write (h : Led A S T a c x r b r' rows bs l) (bs2 : List (List Int)) : Led A S (put T b (.lst (bs2.map tb))) a c x r b r' rows bs2 l := by
  obtain ⟨xa, xc, xb⟩ := h.xa
  refine ⟨h.dk.frame (put_ne xb) (put_ne h.br.symm), put_same, h.hd.off (put_ne h.ba.symm) (put_ne h.bc.symm), h.ok, h.br, h.ra, h.rc, h.ba, h.bc, h.new, fun p hp n => ?_⟩
  rw [put_ne fun z => n (by simp [z])]
  exact h.off p hp n
end
theorem neat_rows {rows : List (List Int)} (h : ∀ w ∈ rows, w.length ≤ 8 ∧ Bts w) : neat 3 (.rol (rows.map tb)) := by
  intro y hy
  obtain ⟨w, hw, rfl⟩ := List.mem_map.mp hy
  exact neat_ints (n := 0) (h w hw).2
theorem bulk_rows : ∀ {rows : List (List Int)}, (∀ w ∈ rows, w.length ≤ 8 ∧ Bts w) → PyData.bulkAll (pyL (rows.map tb)) ≤ 20 * rows.length
  | [], _ => Nat.le_refl _
  | w :: rows, h => by
    have ih := bulk_rows (rows := rows) fun v hv => h v (by simp [hv])
    have hw := (h w (by simp)).1
    rw [List.map_cons]
    show PyData.bulkAll (py (tb w) :: pyL (rows.map tb)) ≤ _
    have e : (py (tb w)).bulk ≤ 8 := by
      show PyData.bulkAll (pyL (List.map Dv.int w)) ≤ 8
      rw [bulk_ints]
      exact hw
    simp only [PyData.bulkAll, List.length_cons]
    omega
theorem shw_rows {rows : List (List Int)} (h : ∀ w ∈ rows, w.length ≤ 8 ∧ Bts w) (hl : rows.length ≤ 1000) : shwD (.rol (rows.map tb)) = true :=
  shw_neat (n := 3) (neat_rows h) (by decide) (by
    show PyData.bulkAll (pyL (rows.map tb)) ≤ 400000
    have := bulk_rows h
    omega)
theorem val_ref {p : Addr} {xs : List Dv} {S : Sto} (h : S p = some (.lst xs)) : valOf (.ref p) S = .rol xs := by
  unfold VD.valOf
  dsimp only
  rw [h]
theorem ne_tup {n : Nat} {xs : List Dv} {S : Sto} {Q : QD} (h : clean n (.tup xs)) (hn : n ≤ 64) (q : Q (.bl false) S) : rdEqG (fun b => !b) (.tup xs) (.tup xs) S Q := ⟨⟨shp_clean h hn, shp_clean h hn⟩, by
  show Q (.bl (!(eqvD (.tup xs) (.tup xs)))) S
  rw [eqv_same h]
  exact q⟩
theorem cl_two {z : Str} {d : Dv} (hz : PyData.strOk z = true) (h : clean 1 d) : clean 2 (.tup [.str z, d]) := by
  intro x hx
  simp only [List.mem_cons, List.not_mem_nil, or_false] at hx
  rcases hx with rfl | rfl
  · exact hz
  · exact h
theorem slV_ref {p : Addr} {xs : List Dv} {lo hi : Option Int} {S : Sto} {Q : QD} (h : S p = some (.lst xs)) : rdSlV (.ref p) lo hi S Q = Q (.rol (VD.cutD xs lo hi)) S := by
  show lstOf (.ref p) S _ = _
  rw [lstOf_ref h]
theorem let_ne : ∀ {z : Str}, z ≠ Str.ofString "let" → ¬ z = Str.ofString "let" := fun h => h
theorem ok_take {w : List Int} {k : Nat} (h : w.length ≤ 8 ∧ Bts w) : (w.take k).length ≤ 8 ∧ Bts (w.take k) := ⟨Nat.le_trans (List.length_take_le' ..) h.1, fun n hn => h.2 n (List.mem_of_mem_take hn)⟩
theorem ok_cut {rows : List (List Int)} {l : Nat} {d : Dv} (h : ∀ w ∈ rows, w.length ≤ 8 ∧ Bts w) : ∀ w ∈ cutR rows l d, w.length ≤ 8 ∧ Bts w := fun w hw => by
  unfold cutR cutW at hw
  rcases List.mem_append.mp hw with hw | hw
  · exact h w (List.mem_of_mem_take hw)
  · obtain ⟨i, hi⟩ := List.getElem?_of_mem hw
    rw [List.getElem?_zipWith] at hi
    split at hi
    · rename_i v k h1 h2
      cases hi
      exact ok_take (h v (List.mem_of_mem_drop (List.mem_of_getElem? h1)))
    · cases hi
theorem cutR_len {rows : List (List Int)} {l : Nat} {d : Dv} (hl : l ≤ rows.length) (h : cutOk (rows.drop l) d = true) : (cutR rows l d).length = rows.length := by
  unfold cutOk at h
  split at h
  · rename_i ks
    rw [Bool.and_eq_true] at h
    have h1 := of_decide_eq_true h.1
    unfold cutR
    rw [List.length_append, cutW_len (by show (List.map ivl ks).length = _; rw [List.length_map, h1]), List.length_take, List.length_drop]
    omega
  · cases h
theorem ifS_T {t : DT} {u v : DS} {D : DEnds} {ρ : Rho} {S : Sto} (h : ∀ (Q : Bool → Sto → Prop) (X : XD), Q true S → t ρ S Q X) (k : u D ρ S) : dIfS t u v D ρ S := h _ _ k
theorem ifS_F {t : DT} {u v : DS} {D : DEnds} {ρ : Rho} {S : Sto} (h : ∀ (Q : Bool → Sto → Prop) (X : XD), Q false S → t ρ S Q X) (k : v D ρ S) : dIfS t u v D ρ S := h _ _ k
end Lw

--CLS Disk
namespace Lw
open PySem PySem.Spec PyProof.Rows L2 VD
def sp__law_led (A : Ad) : SpD := fun ds S Q _ => ∃ (a c x r b : Addr) (rows : List (List Int)) (l n : Nat), ds = [.ref a, .ref x, .ref b, .int (l : Nat), .int (n : Nat)] ∧ Led A S S a c x r b r rows rows l ∧ n ≤ 100 ∧ rows.length ≤ 100 ∧
  ∀ T r' rows' l', Led A S T a c x r b r' rows' rows' l' → rows'.length ≤ rows.length + n → Q (.int (l' : Nat)) T
theorem len__law_led (A : Ad) : ∀ ds S Q X, sp__law_led A ds S Q X → ds.length = 5 := by rintro _ _ _ _ ⟨_, _, _, _, _, _, _, _, rfl, _⟩; rfl
/-- the names of the led disk -/
def nm (a x b : Addr) (l n : Nat) (ys : List (Option Dv)) : Rho := some (.ref a) :: some (.ref x) :: some (.ref b) :: some (.int (l : Nat)) :: some (.int (n : Nat)) :: ys
def r__law_led (A : Ad) : DS := (dSeq (dFor (iR1 (dCons (dVar 4) dNil)) (gN 5) (dSeq (dAsg (dCall (sp__law_draw A) (dCons (dVar 0) (dCons (dC (.int 7)) dNil))) (gN 6))
    (dSeq (dIfS (dTest (dOp rdLt (dVar 6) (dC (.int 3)))) (dSeq (dAsg (dCB rdTuple (dCons (dFrz (dLc (iR1 (dCons (dCall (sp__law_draw A) (dCons (dVar 0) (dCons (dC (.int 6)) dNil))) dNil)) (gN 12) dYes (dCall (sp__law_draw A) (dCons (dVar 0) (dCons (dC (.int 256)) dNil))) [12])) dNil)) (gN 7))
    (dSeq (dAsg (dIf (dTest (dOp rdEq (dCall (sp__law_draw A) (dCons (dVar 0) (dCons (dC (.int 4)) dNil))) (dC (.int 0)))) (dCall (sp__law_odd A) (dCons (dVar 0) (dCons (dVar 7) dNil))) (dVar 7)) (gN 8))
    (dSeq (dAsg (dIf (dTest (dCall (sp__law_is_row A) (dCons (dVar 8) dNil))) (dTup (dCons (dC (.str (Str.ofString "let"))) (dCons (dCB rdLen (dCons (dVar 2) dNil)) dNil))) (dTup (dCons (dC (.str (Str.ofString "row"))) (dCons (dC .non) dNil)))) (gN 9))
    (dSeq (dIfS (dTest (dOp rdNe (dCall (sp__law_word A) (dCons (dVar 1) (dCons (dC (.int 0)) (dCons (dVar 8) dNil)))) (dVar 9))) (dRet (dC .non)) dNext)
    (dIfS (dTest (dOp rdEq (dOp rdIx (dVar 9) (dC (.int 0))) (dC (.str (Str.ofString "let"))))) (dDrop (dBM rdAppend (dVar 2) (dCons (dVar 8) dNil))) dNext))))) (dIfS (dTest (dOp rdEq (dVar 6) (dC (.int 3)))) (dSeq (dIfS (dNotT (dTest (dCall (sp__law_is A) (dCons (dMeth [(A.Disk, (sp_Disk_sync A))] (Str.ofString "sync") (dVar 1) dNil) (dCons (dOp rdSub (dCB rdLen (dCons (dVar 2) dNil)) (dVar 3)) dNil))))) (dRet (dC .non)) dNext)
    (dAsg (dCB rdLen (dCons (dVar 2) dNil)) (gN 3))) (dIfS (dTest (dOp rdEq (dVar 6) (dC (.int 4)))) (dSeq (dAsg (dCB rdTuple (dCons (dFrz (dLc (iSeqD (dSlV (dVar 2) (oSome (dVar 3)) oNone)) (gN 13) dYes (dCall (sp__law_draw A) (dCons (dVar 0) (dCons (dOp rdAddV (dCB rdLen (dCons (dVar 13) dNil)) (dC (.int 1))) dNil))) [13])) dNil)) (gN 10))
    (dSeq (dAsg (dIf (dTest (dOp rdEq (dCall (sp__law_draw A) (dCons (dVar 0) (dCons (dC (.int 3)) dNil))) (dC (.int 0)))) (dCall (sp__law_odd A) (dCons (dVar 0) (dCons (dVar 10) dNil))) (dVar 10)) (gN 8))
    (dSeq (dAsg (dCall (sp__law_is_cut A) (dCons (dVar 2) (dCons (dVar 3) (dCons (dVar 8) dNil)))) (gN 9))
    (dSeq (dIfS (dTest (dOp rdNe (dCall (sp__law_word A) (dCons (dVar 1) (dCons (dC (.int 1)) (dCons (dVar 8) dNil)))) (dIf (dTest (dVar 9)) (dTup (dCons (dC (.str (Str.ofString "let"))) (dCons (dC .non) dNil))) (dTup (dCons (dC (.str (Str.ofString "cut"))) (dCons (dC .non) dNil)))))) (dRet (dC .non)) dNext)
    (dIfS (dTest (dVar 9)) (dSeq (dAsg (dFrz (dLc (iZipM (dCons (dSlV (dVar 2) (oSome (dVar 3)) oNone) (dCons (dVar 8) dNil))) (gT 2 (gConsD (gN 13) (gConsD (gN 14) gNilD))) dYes (dSlV (dVar 13) oNone (oSome (dVar 14))) [13, 14])) (gOpenD (dVar 2) (oSome (dVar 3))))
    (dAsg (dCB rdLen (dCons (dVar 2) dNil)) (gN 3))) dNext))))) (dIfS (dTest (dOp rdEq (dVar 6) (dC (.int 5)))) (dSeq (dAsg (dOp rdIx (dLstV (dCons (dCall (sp__law_draw A) (dCons (dVar 0) (dCons (dOp rdAddV (dCB rdLen (dCons (dVar 2) dNil)) (dC (.int 1))) dNil))) (dCons (dCB rdLen (dCons (dVar 2) dNil)) (dCons (dOp rdAddV (dCB rdLen (dCons (dVar 2) dNil)) (dC (.int 1))) (dCons (dNeg (dC (.int 1))) (dCons (dC (.bl true)) (dCons (dC .non) (dCons (dC (.str (Str.ofString "0"))) dNil)))))))) (dCall (sp__law_draw A) (dCons (dVar 0) (dCons (dC (.int 7)) dNil)))) (gN 11))
    (dSeq (dAsg (dAndV (dCB (rdIsi A.ot) (dCons (dVar 11) (dCons (dC (.ty "int")) dNil))) (dAndV (dNotV (dCB (rdIsi A.ot) (dCons (dVar 11) (dCons (dC (.ty "bool")) dNil)))) (dChain rdLe rdLe (dC (.int 0)) (dVar 11) (dCB rdLen (dCons (dVar 2) dNil))))) (gN 9))
    (dSeq (dIfS (dTest (dOp rdNe (dCall (sp__law_word A) (dCons (dVar 1) (dCons (dC (.int 2)) (dCons (dVar 11) dNil)))) (dIf (dTest (dVar 9)) (dTup (dCons (dC (.str (Str.ofString "let"))) (dCons (dC .non) dNil))) (dTup (dCons (dC (.str (Str.ofString "number"))) (dCons (dC .non) dNil)))))) (dRet (dC .non)) dNext)
    (dIfS (dTest (dVar 9)) (dSeq (dAsg (dLstV dNil) (gOpenD (dVar 2) (oSome (dVar 11))))
    (dAsg (dCB rdMinL (dCons (dVar 3) (dCons (dVar 11) dNil))) (gN 3))) dNext)))) dNext))))
    (dIfS (dOrT (dNotT (dTest (dCall (sp__law_is A) (dCons (dMeth [(A.Disk, (sp_Disk_blocks A))] (Str.ofString "blocks") (dVar 1) dNil) (dCons (dVar 2) dNil))))) (dNotT (dTest (dCall (sp__law_is A) (dCons (dMeth [(A.Disk, (sp_Disk_synced A))] (Str.ofString "synced") (dVar 1) dNil) (dCons (dVar 3) dNil)))))) (dRet (dC .non)) dNext))))
    (dRet (dVar 3)))
theorem rd__law_led (A : Ad) : Rd (r__law_led A) 15 (sp__law_led A) := by
  rintro ds S Q X ⟨a, c, x, r, b, rows0, l0, n, rfl, hL0, hn, hr0, h⟩
  unfold r__law_led
  refine cut_seq (fun ρ T => ∃ r' rows l, Led A S T a c x r b r' rows rows l ∧ rows.length ≤ rows0.length + n ∧ ∃ ys, ρ = nm a x b l n ys) (fun N hN => ?_) fun ρ T hM => ?_
  · unfold dFor
    simp only [dIfS, dTest, dOp, dVar, dC, dCB, dCons, dNil, dCall, dAndV, dOrV, dNotV, dAndT, dOrT, dNotT, dIf, dTup, dLst, dLstV, dSl, dSlV, rdSlV, oSome, oNone, dNeg, gN, gT, gConsD, gNilD, gSubD, gFldD, dChain, dLc, dBM, isLst, iSeqD, iR1, iR2, iR3, dYes, rdAddV, rdMulV, rdSub, rdDiv, rdMod, rdPow, rdIAdd, rdCmp, rdIsN, isn_non, isn_bl, isn_int, isn_str, isn_ref, isn_tup, isn_rol, isn_obj, rdEqG, rdIx_tup, rdIx_rol, rdIx_put, rdSet, rdLen_tup, rdLen_rol, rdLen_str, rdLen_put, rdInt1, rdInt, rdInt2, rdAppend, rdExt, rdPopAt, rdMaxL, rdMinL, rdListV, rdIsB, isBlV, rdStrI, rdIntS, dFrz, dFld, insOf_put, dMeth, lstOf_rol, lstOf_put, seqOf_tup, seqOf_rol, seqOf_put, frz_tup, frz_rol, frz_int, frz_bl, frz_non, frz_str, frz_obj, startN, wipeD, List.map_cons, List.map_nil, List.length_cons, List.length_nil, Nat.zero_add, Nat.sub_self, Nat.reduceAdd, Nat.reduceSub, List.replicate_succ, List.replicate_zero, List.cons_append, List.nil_append, List.append_nil, List.getElem?_cons_zero, List.getElem?_cons_succ, List.set_cons_zero, List.set_cons_succ, Option.some.injEq, exists_eq_left', DEnds.xd, atI_0, atI_1, atI_2, atI_3, atI_4, atI_5, atI_6, atI_7, ixN_50, ixN_51, ixN_52, ixN_53, ixN_54, ixN_30, ixN_31, ixN_32, put_same, put_put, true_and, and_true, decide_true, decide_false, Bool.not_true, Bool.not_false, Bool.false_eq_true, if_true, if_false, decide_eq_true_eq, Bool.not_eq_true', decide_eq_false_iff_not, mem_one, ex_one, and_self, i_Disk, l_Disk, h_Disk_write, h_Disk_sync, h_Disk_blocks, h_Disk_synced, h_Disk_cut, h_Disk_drop, h_Disk_copy, g_Disk_rows, p_Disk_rows, k_Disk_rows, g_Disk_lasting, p_Disk_lasting, k_Disk_lasting]
    refine for_go (fun j ρ T => ∃ r' rows l, Led A S T a c x r b r' rows rows l ∧ rows.length ≤ rows0.length + j ∧ ∃ y5 y6 y7 y8 y9 y10 y11 y12 y13 y14, ρ = nm a x b l n [y5, y6, y7, y8, y9, y10, y11, y12, y13, y14]) ⟨r, rows0, l0, hL0, Nat.le_refl _, _, _, _, _, _, _, _, _, _, _, rfl⟩ (fun _ _ _ _ _ => trivial) (fun j z ρ T hz hw => ?_) fun ρ T hw => ?_
    · obtain ⟨r1, rows, l, hL, hlen, y5, y6, y7, y8, y9, y10, y11, y12, y13, y14, rfl⟩ := hw
      obtain ⟨hj, rfl⟩ := rangeL_mem hz
      refine cut_seq (fun ρ T => ∃ k : Int, 0 ≤ k ∧ k < 7 ∧ Led A S T a c x r b r1 rows rows l ∧ ∃ y5, ρ = nm a x b l n [y5, some (.int k), y7, y8, y9, y10, y11, y12, y13, y14]) (fun N hN => ?_) fun ρ T hM => ?_
      · simp only [dSeq, dAsg, dRet, dRetN, dDrop, dRaise, dBreak, dCont, dPar, dAug, dFor, dNext, dSetF, dAugF, dRaiseF, dIfS, dTest, dOp, dVar, dC, dCB, dCons, dNil, dCall, dAndV, dOrV, dNotV, dAndT, dOrT, dNotT, dIf, dTup, dLst, dLstV, dSl, dSlV, rdSlV, oSome, oNone, dNeg, gN, gT, gConsD, gNilD, gSubD, gFldD, dChain, dLc, dBM, isLst, iSeqD, iR1, iR2, iR3, dYes, rdAddV, rdMulV, rdSub, rdDiv, rdMod, rdPow, rdIAdd, rdCmp, rdIsN, isn_non, isn_bl, isn_int, isn_str, isn_ref, isn_tup, isn_rol, isn_obj, rdEqG, rdIx_tup, rdIx_rol, rdIx_put, rdSet, rdLen_tup, rdLen_rol, rdLen_str, rdLen_put, rdInt1, rdInt, rdInt2, rdAppend, rdExt, rdPopAt, rdMaxL, rdMinL, rdListV, rdIsB, isBlV, rdStrI, rdIntS, dFrz, dFld, insOf_put, dMeth, lstOf_rol, lstOf_put, seqOf_tup, seqOf_rol, seqOf_put, frz_tup, frz_rol, frz_int, frz_bl, frz_non, frz_str, frz_obj, startN, wipeD, List.map_cons, List.map_nil, List.length_cons, List.length_nil, Nat.zero_add, Nat.sub_self, Nat.reduceAdd, Nat.reduceSub, List.replicate_succ, List.replicate_zero, List.cons_append, List.nil_append, List.append_nil, List.getElem?_cons_zero, List.getElem?_cons_succ, List.set_cons_zero, List.set_cons_succ, Option.some.injEq, exists_eq_left', DEnds.xd, atI_0, atI_1, atI_2, atI_3, atI_4, atI_5, atI_6, atI_7, ixN_50, ixN_51, ixN_52, ixN_53, ixN_54, ixN_30, ixN_31, ixN_32, put_same, put_put, true_and, and_true, decide_true, decide_false, Bool.not_true, Bool.not_false, Bool.false_eq_true, if_true, if_false, decide_eq_true_eq, Bool.not_eq_true', decide_eq_false_iff_not, mem_one, ex_one, and_self, i_Disk, l_Disk, h_Disk_write, h_Disk_sync, h_Disk_blocks, h_Disk_synced, h_Disk_cut, h_Disk_drop, h_Disk_copy, g_Disk_rows, p_Disk_rows, k_Disk_rows, g_Disk_lasting, p_Disk_lasting, k_Disk_lasting, nm]
        exact ask hL.hd fun k T2 hT2 k0 k1 => hN _ _ ⟨k, k0, k1, hL.draw hT2, _, rfl⟩
      obtain ⟨k, k0, k1, hL, y5, rfl⟩ := hM
      have few : rows.length ≤ 200 := by omega
      refine cut_seq (fun ρ T => ∃ r' rows l, Led A S T a c x r b r' rows rows l ∧ rows.length ≤ rows0.length + (j + 1) ∧ ∃ y5 y6 y7 y8 y9 y10 y11 y12 y13 y14, ρ = nm a x b l n [y5, y6, y7, y8, y9, y10, y11, y12, y13, y14]) (fun N hN => ?_) fun ρ T hM => ?_
      · by_cases h3 : k < 3
        · refine ifS_T (fun Q X q => ?_) ?_
          · simp only [dSeq, dAsg, dRet, dRetN, dDrop, dRaise, dBreak, dCont, dPar, dAug, dFor, dNext, dSetF, dAugF, dRaiseF, dIfS, dTest, dOp, dVar, dC, dCB, dCons, dNil, dCall, dAndV, dOrV, dNotV, dAndT, dOrT, dNotT, dIf, dTup, dLst, dLstV, dSl, dSlV, rdSlV, oSome, oNone, dNeg, gN, gT, gConsD, gNilD, gSubD, gFldD, dChain, dLc, dBM, isLst, iSeqD, iR1, iR2, iR3, dYes, rdAddV, rdMulV, rdSub, rdDiv, rdMod, rdPow, rdIAdd, rdCmp, rdIsN, isn_non, isn_bl, isn_int, isn_str, isn_ref, isn_tup, isn_rol, isn_obj, rdEqG, rdIx_tup, rdIx_rol, rdIx_put, rdSet, rdLen_tup, rdLen_rol, rdLen_str, rdLen_put, rdInt1, rdInt, rdInt2, rdAppend, rdExt, rdPopAt, rdMaxL, rdMinL, rdListV, rdIsB, isBlV, rdStrI, rdIntS, dFrz, dFld, insOf_put, dMeth, lstOf_rol, lstOf_put, seqOf_tup, seqOf_rol, seqOf_put, frz_tup, frz_rol, frz_int, frz_bl, frz_non, frz_str, frz_obj, startN, wipeD, List.map_cons, List.map_nil, List.length_cons, List.length_nil, Nat.zero_add, Nat.sub_self, Nat.reduceAdd, Nat.reduceSub, List.replicate_succ, List.replicate_zero, List.cons_append, List.nil_append, List.append_nil, List.getElem?_cons_zero, List.getElem?_cons_succ, List.set_cons_zero, List.set_cons_succ, Option.some.injEq, exists_eq_left', DEnds.xd, atI_0, atI_1, atI_2, atI_3, atI_4, atI_5, atI_6, atI_7, ixN_50, ixN_51, ixN_52, ixN_53, ixN_54, ixN_30, ixN_31, ixN_32, put_same, put_put, true_and, and_true, decide_true, decide_false, Bool.not_true, Bool.not_false, Bool.false_eq_true, if_true, if_false, decide_eq_true_eq, Bool.not_eq_true', decide_eq_false_iff_not, mem_one, ex_one, and_self, i_Disk, l_Disk, h_Disk_write, h_Disk_sync, h_Disk_blocks, h_Disk_synced, h_Disk_cut, h_Disk_drop, h_Disk_copy, g_Disk_rows, p_Disk_rows, k_Disk_rows, g_Disk_lasting, p_Disk_lasting, k_Disk_lasting, nm, decide_eq_true h3]
            exact q
          refine cut_seq (fun ρ T => Led A S T a c x r b r1 rows rows l ∧ ∃ (ns : List Int) (y12 : Option Dv), Bts ns ∧ ns.length ≤ 6 ∧ ρ = nm a x b l n [y5, some (.int k), some (.tup (ns.map Dv.int)), y8, y9, y10, y11, y12, y13, y14]) (fun N hN => ?_) fun ρ T hM => ?_
          · simp only [dSeq, dAsg, dRet, dRetN, dDrop, dRaise, dBreak, dCont, dPar, dAug, dFor, dNext, dSetF, dAugF, dRaiseF, dIfS, dTest, dOp, dVar, dC, dCB, dCons, dNil, dCall, dAndV, dOrV, dNotV, dAndT, dOrT, dNotT, dIf, dTup, dLst, dLstV, dSl, dSlV, oSome, oNone, dNeg, gN, gT, gConsD, gNilD, gSubD, gFldD, dChain, dLc, dBM, isLst, iSeqD, iR1, iR2, iR3, dYes, isn_non, isn_bl, isn_int, isn_str, isn_ref, isn_tup, isn_rol, isn_obj, rdIx_tup, rdIx_rol, rdIx_put, rdSet, rdLen_tup, rdLen_rol, rdLen_str, rdLen_put, rdAppend, rdExt, rdPopAt, rdIsB, isBlV, rdStrI, rdIntS, dFrz, dFld, insOf_put, dMeth, lstOf_rol, lstOf_put, seqOf_tup, seqOf_rol, seqOf_put, frz_tup, frz_rol, frz_int, frz_bl, frz_non, frz_str, frz_obj, startN, wipeD, List.map_cons, List.map_nil, List.length_cons, List.length_nil, Nat.zero_add, Nat.sub_self, Nat.reduceAdd, Nat.reduceSub, List.replicate_succ, List.replicate_zero, List.cons_append, List.nil_append, List.append_nil, List.getElem?_cons_zero, List.getElem?_cons_succ, List.set_cons_zero, List.set_cons_succ, Option.some.injEq, exists_eq_left', atI_0, atI_1, atI_2, atI_3, atI_4, atI_5, atI_6, atI_7, ixN_50, ixN_51, ixN_52, ixN_53, ixN_54, ixN_30, ixN_31, ixN_32, put_same, put_put, true_and, and_true, decide_true, decide_false, Bool.not_true, Bool.not_false, Bool.false_eq_true, if_true, if_false, decide_eq_true_eq, Bool.not_eq_true', decide_eq_false_iff_not, mem_one, ex_one, and_self, xd_mk, qAdd_i, qAdd_t, qAdd_s, qAdd_l, qMul_i, qMul_t, qMul_l, qSub_i, qDiv_i, qMod_i, qPow_i, qIAdd_i, qEq_i, qEq_b, qEq_s, qCmp_i, qIsN, qSl_t, qSl_l, qSl_s, qInt_i, qInt_b, qInt1, qMax, qMin, qList_t, qList_l, i_Disk, l_Disk, h_Disk_write, h_Disk_sync, h_Disk_blocks, h_Disk_synced, h_Disk_cut, h_Disk_drop, h_Disk_copy, g_Disk_rows, p_Disk_rows, k_Disk_rows, g_Disk_lasting, p_Disk_lasting, k_Disk_lasting, nm]
            (refine ask hL.hd (fun m T1 h1 a1 b1 => ?_) (by first | decide | omega) (by first | decide | omega); try simp only [dSeq, dAsg, dRet, dRetN, dDrop, dRaise, dBreak, dCont, dPar, dAug, dFor, dNext, dSetF, dAugF, dRaiseF, dIfS, dTest, dOp, dVar, dC, dCB, dCons, dNil, dCall, dAndV, dOrV, dNotV, dAndT, dOrT, dNotT, dIf, dTup, dLst, dLstV, dSl, dSlV, oSome, oNone, dNeg, gN, gT, gConsD, gNilD, gSubD, gFldD, dChain, dLc, dBM, isLst, iSeqD, iR1, iR2, iR3, dYes, isn_non, isn_bl, isn_int, isn_str, isn_ref, isn_tup, isn_rol, isn_obj, rdIx_tup, rdIx_rol, rdIx_put, rdSet, rdLen_tup, rdLen_rol, rdLen_str, rdLen_put, rdAppend, rdExt, rdPopAt, rdIsB, isBlV, rdStrI, rdIntS, dFrz, dFld, insOf_put, dMeth, lstOf_rol, lstOf_put, seqOf_tup, seqOf_rol, seqOf_put, frz_tup, frz_rol, frz_int, frz_bl, frz_non, frz_str, frz_obj, startN, wipeD, List.map_cons, List.map_nil, List.length_cons, List.length_nil, Nat.zero_add, Nat.sub_self, Nat.reduceAdd, Nat.reduceSub, List.replicate_succ, List.replicate_zero, List.cons_append, List.nil_append, List.append_nil, List.getElem?_cons_zero, List.getElem?_cons_succ, List.set_cons_zero, List.set_cons_succ, Option.some.injEq, exists_eq_left', atI_0, atI_1, atI_2, atI_3, atI_4, atI_5, atI_6, atI_7, ixN_50, ixN_51, ixN_52, ixN_53, ixN_54, ixN_30, ixN_31, ixN_32, put_same, put_put, true_and, and_true, decide_true, decide_false, Bool.not_true, Bool.not_false, Bool.false_eq_true, if_true, if_false, decide_eq_true_eq, Bool.not_eq_true', decide_eq_false_iff_not, mem_one, ex_one, and_self, xd_mk, qAdd_i, qAdd_t, qAdd_s, qAdd_l, qMul_i, qMul_t, qMul_l, qSub_i, qDiv_i, qMod_i, qPow_i, qIAdd_i, qEq_i, qEq_b, qEq_s, qCmp_i, qIsN, qSl_t, qSl_l, qSl_s, qInt_i, qInt_b, qInt1, qMax, qMin, qList_t, qList_l, i_Disk, l_Disk, h_Disk_write, h_Disk_sync, h_Disk_blocks, h_Disk_synced, h_Disk_cut, h_Disk_drop, h_Disk_copy, g_Disk_rows, p_Disk_rows, k_Disk_rows, g_Disk_lasting, p_Disk_lasting, k_Disk_lasting])
            refine lcV_hand (fun _ y => ∃ r, y = .int r ∧ 0 ≤ r ∧ r < 256) h1 (by rw [rangeL_len, sizeLine_eq]; omega) (fun _ _ _ _ => trivial) (fun i z hz B' T2 K hB hT k => ?_) fun acc T2 h2 hlen hacc => ?_
            · simp only [dSeq, dAsg, dRet, dRetN, dDrop, dRaise, dBreak, dCont, dPar, dAug, dFor, dNext, dSetF, dAugF, dRaiseF, dIfS, dTest, dOp, dVar, dC, dCB, dCons, dNil, dCall, dAndV, dOrV, dNotV, dAndT, dOrT, dNotT, dIf, dTup, dLst, dLstV, dSl, dSlV, oSome, oNone, dNeg, gN, gT, gConsD, gNilD, gSubD, gFldD, dChain, dLc, dBM, isLst, iSeqD, iR1, iR2, iR3, dYes, isn_non, isn_bl, isn_int, isn_str, isn_ref, isn_tup, isn_rol, isn_obj, rdIx_tup, rdIx_rol, rdIx_put, rdSet, rdLen_tup, rdLen_rol, rdLen_str, rdLen_put, rdAppend, rdExt, rdPopAt, rdIsB, isBlV, rdStrI, rdIntS, dFrz, dFld, insOf_put, dMeth, lstOf_rol, lstOf_put, seqOf_tup, seqOf_rol, seqOf_put, frz_tup, frz_rol, frz_int, frz_bl, frz_non, frz_str, frz_obj, startN, wipeD, List.map_cons, List.map_nil, List.length_cons, List.length_nil, Nat.zero_add, Nat.sub_self, Nat.reduceAdd, Nat.reduceSub, List.replicate_succ, List.replicate_zero, List.cons_append, List.nil_append, List.append_nil, List.getElem?_cons_zero, List.getElem?_cons_succ, List.set_cons_zero, List.set_cons_succ, Option.some.injEq, exists_eq_left', atI_0, atI_1, atI_2, atI_3, atI_4, atI_5, atI_6, atI_7, ixN_50, ixN_51, ixN_52, ixN_53, ixN_54, ixN_30, ixN_31, ixN_32, put_same, put_put, true_and, and_true, decide_true, decide_false, Bool.not_true, Bool.not_false, Bool.false_eq_true, if_true, if_false, decide_eq_true_eq, Bool.not_eq_true', decide_eq_false_iff_not, mem_one, ex_one, and_self, xd_mk, qAdd_i, qAdd_t, qAdd_s, qAdd_l, qMul_i, qMul_t, qMul_l, qSub_i, qDiv_i, qMod_i, qPow_i, qIAdd_i, qEq_i, qEq_b, qEq_s, qCmp_i, qIsN, qSl_t, qSl_l, qSl_s, qInt_i, qInt_b, qInt1, qMax, qMin, qList_t, qList_l, i_Disk, l_Disk, h_Disk_write, h_Disk_sync, h_Disk_blocks, h_Disk_synced, h_Disk_cut, h_Disk_drop, h_Disk_copy, g_Disk_rows, p_Disk_rows, k_Disk_rows, g_Disk_lasting, p_Disk_lasting, k_Disk_lasting]
              exact ask hT fun r T' ht h1 h2 => k _ _ ⟨r, rfl, h1, h2⟩ ht
            · obtain ⟨ns, rfl, hns⟩ := ints_of (P := fun r => 0 ≤ r ∧ r < 256) hacc
              rw [List.length_map, rangeL_len] at hlen
              exact tup_rol (hN _ _ ⟨hL.draw h2, ns, _, hns, by omega, rfl⟩)
          clear hL
          obtain ⟨hL, ns, y12, hns, hnl, rfl⟩ := hM
          refine cut_seq (fun ρ T => Led A S T a c x r b r1 rows rows l ∧ ∃ d, Tame A T 7 d ∧ ρ = nm a x b l n [y5, some (.int k), some (.tup (ns.map Dv.int)), some d, y9, y10, y11, y12, y13, y14]) (fun N hN => ?_) fun ρ T hM => ?_
          · simp only [dSeq, dAsg, dRet, dRetN, dDrop, dRaise, dBreak, dCont, dPar, dAug, dFor, dNext, dSetF, dAugF, dRaiseF, dIfS, dTest, dOp, dVar, dC, dCB, dCons, dNil, dCall, dAndV, dOrV, dNotV, dAndT, dOrT, dNotT, dIf, dTup, dLst, dLstV, dSl, dSlV, oSome, oNone, dNeg, gN, gT, gConsD, gNilD, gSubD, gFldD, dChain, dLc, dBM, isLst, iSeqD, iR1, iR2, iR3, dYes, isn_non, isn_bl, isn_int, isn_str, isn_ref, isn_tup, isn_rol, isn_obj, rdIx_tup, rdIx_rol, rdIx_put, rdSet, rdLen_tup, rdLen_rol, rdLen_str, rdLen_put, rdAppend, rdExt, rdPopAt, rdIsB, isBlV, rdStrI, rdIntS, dFrz, dFld, insOf_put, dMeth, lstOf_rol, lstOf_put, seqOf_tup, seqOf_rol, seqOf_put, frz_tup, frz_rol, frz_int, frz_bl, frz_non, frz_str, frz_obj, startN, wipeD, List.map_cons, List.map_nil, List.length_cons, List.length_nil, Nat.zero_add, Nat.sub_self, Nat.reduceAdd, Nat.reduceSub, List.replicate_succ, List.replicate_zero, List.cons_append, List.nil_append, List.append_nil, List.getElem?_cons_zero, List.getElem?_cons_succ, List.set_cons_zero, List.set_cons_succ, Option.some.injEq, exists_eq_left', atI_0, atI_1, atI_2, atI_3, atI_4, atI_5, atI_6, atI_7, ixN_50, ixN_51, ixN_52, ixN_53, ixN_54, ixN_30, ixN_31, ixN_32, put_same, put_put, true_and, and_true, decide_true, decide_false, Bool.not_true, Bool.not_false, Bool.false_eq_true, if_true, if_false, decide_eq_true_eq, Bool.not_eq_true', decide_eq_false_iff_not, mem_one, ex_one, and_self, xd_mk, qAdd_i, qAdd_t, qAdd_s, qAdd_l, qMul_i, qMul_t, qMul_l, qSub_i, qDiv_i, qMod_i, qPow_i, qIAdd_i, qEq_i, qEq_b, qEq_s, qCmp_i, qIsN, qSl_t, qSl_l, qSl_s, qInt_i, qInt_b, qInt1, qMax, qMin, qList_t, qList_l, i_Disk, l_Disk, h_Disk_write, h_Disk_sync, h_Disk_blocks, h_Disk_synced, h_Disk_cut, h_Disk_drop, h_Disk_copy, g_Disk_rows, p_Disk_rows, k_Disk_rows, g_Disk_lasting, p_Disk_lasting, k_Disk_lasting, nm]
            (refine ask hL.hd (fun m T1 h1 a1 b1 => ?_) (by first | decide | omega) (by first | decide | omega); try simp only [dSeq, dAsg, dRet, dRetN, dDrop, dRaise, dBreak, dCont, dPar, dAug, dFor, dNext, dSetF, dAugF, dRaiseF, dIfS, dTest, dOp, dVar, dC, dCB, dCons, dNil, dCall, dAndV, dOrV, dNotV, dAndT, dOrT, dNotT, dIf, dTup, dLst, dLstV, dSl, dSlV, oSome, oNone, dNeg, gN, gT, gConsD, gNilD, gSubD, gFldD, dChain, dLc, dBM, isLst, iSeqD, iR1, iR2, iR3, dYes, isn_non, isn_bl, isn_int, isn_str, isn_ref, isn_tup, isn_rol, isn_obj, rdIx_tup, rdIx_rol, rdIx_put, rdSet, rdLen_tup, rdLen_rol, rdLen_str, rdLen_put, rdAppend, rdExt, rdPopAt, rdIsB, isBlV, rdStrI, rdIntS, dFrz, dFld, insOf_put, dMeth, lstOf_rol, lstOf_put, seqOf_tup, seqOf_rol, seqOf_put, frz_tup, frz_rol, frz_int, frz_bl, frz_non, frz_str, frz_obj, startN, wipeD, List.map_cons, List.map_nil, List.length_cons, List.length_nil, Nat.zero_add, Nat.sub_self, Nat.reduceAdd, Nat.reduceSub, List.replicate_succ, List.replicate_zero, List.cons_append, List.nil_append, List.append_nil, List.getElem?_cons_zero, List.getElem?_cons_succ, List.set_cons_zero, List.set_cons_succ, Option.some.injEq, exists_eq_left', atI_0, atI_1, atI_2, atI_3, atI_4, atI_5, atI_6, atI_7, ixN_50, ixN_51, ixN_52, ixN_53, ixN_54, ixN_30, ixN_31, ixN_32, put_same, put_put, true_and, and_true, decide_true, decide_false, Bool.not_true, Bool.not_false, Bool.false_eq_true, if_true, if_false, decide_eq_true_eq, Bool.not_eq_true', decide_eq_false_iff_not, mem_one, ex_one, and_self, xd_mk, qAdd_i, qAdd_t, qAdd_s, qAdd_l, qMul_i, qMul_t, qMul_l, qSub_i, qDiv_i, qMod_i, qPow_i, qIAdd_i, qEq_i, qEq_b, qEq_s, qCmp_i, qIsN, qSl_t, qSl_l, qSl_s, qInt_i, qInt_b, qInt1, qMax, qMin, qList_t, qList_l, i_Disk, l_Disk, h_Disk_write, h_Disk_sync, h_Disk_blocks, h_Disk_synced, h_Disk_cut, h_Disk_drop, h_Disk_copy, g_Disk_rows, p_Disk_rows, k_Disk_rows, g_Disk_lasting, p_Disk_lasting, k_Disk_lasting])
            have hL1 := hL.draw h1
            by_cases hm : m = 0
            · rw [if_pos hm]
              exact ⟨a, c, T1, ns, rfl, hL1.hd, by omega, fun d B' T2 hs hh ht => hN _ _ ⟨hL1.step hs hh, d, ht.mono (by omega) (Sub.refl _), rfl⟩⟩
            · rw [if_neg hm]
              exact hN _ _ ⟨hL1, _, Tame.tup (by rw [List.length_map]; omega) pl_ints, rfl⟩
          clear hL
          obtain ⟨hL, d, hd, rfl⟩ := hM
          have kd := hd.1 T (Sub.refl T)
          obtain ⟨dx, ho⟩ := hL.dk.obj
          simp only [dSeq, dAsg, dRet, dRetN, dDrop, dRaise, dBreak, dCont, dPar, dAug, dFor, dNext, dSetF, dAugF, dRaiseF, dIfS, dTest, dOp, dVar, dC, dCB, dCons, dNil, dCall, dAndV, dOrV, dNotV, dAndT, dOrT, dNotT, dIf, dTup, dLst, dLstV, dSl, dSlV, oSome, oNone, dNeg, gN, gT, gConsD, gNilD, gSubD, gFldD, dChain, dLc, dBM, isLst, iSeqD, iR1, iR2, iR3, dYes, isn_non, isn_bl, isn_int, isn_str, isn_ref, isn_tup, isn_rol, isn_obj, rdIx_tup, rdIx_rol, rdIx_put, rdSet, rdLen_tup, rdLen_rol, rdLen_str, rdLen_put, rdAppend, rdExt, rdPopAt, rdIsB, isBlV, rdStrI, rdIntS, dFrz, dFld, insOf_put, dMeth, lstOf_rol, lstOf_put, seqOf_tup, seqOf_rol, seqOf_put, frz_tup, frz_rol, frz_int, frz_bl, frz_non, frz_str, frz_obj, startN, wipeD, List.map_cons, List.map_nil, List.length_cons, List.length_nil, Nat.zero_add, Nat.sub_self, Nat.reduceAdd, Nat.reduceSub, List.replicate_succ, List.replicate_zero, List.cons_append, List.nil_append, List.append_nil, List.getElem?_cons_zero, List.getElem?_cons_succ, List.set_cons_zero, List.set_cons_succ, Option.some.injEq, exists_eq_left', atI_0, atI_1, atI_2, atI_3, atI_4, atI_5, atI_6, atI_7, ixN_50, ixN_51, ixN_52, ixN_53, ixN_54, ixN_30, ixN_31, ixN_32, put_same, put_put, true_and, and_true, decide_true, decide_false, Bool.not_true, Bool.not_false, Bool.false_eq_true, if_true, if_false, decide_eq_true_eq, Bool.not_eq_true', decide_eq_false_iff_not, mem_one, ex_one, and_self, xd_mk, qAdd_i, qAdd_t, qAdd_s, qAdd_l, qMul_i, qMul_t, qMul_l, qSub_i, qDiv_i, qMod_i, qPow_i, qIAdd_i, qEq_i, qEq_b, qEq_s, qCmp_i, qIsN, qSl_t, qSl_l, qSl_s, qInt_i, qInt_b, qInt1, qMax, qMin, qList_t, qList_l, i_Disk, l_Disk, h_Disk_write, h_Disk_sync, h_Disk_blocks, h_Disk_synced, h_Disk_cut, h_Disk_drop, h_Disk_copy, g_Disk_rows, p_Disk_rows, k_Disk_rows, g_Disk_lasting, p_Disk_lasting, k_Disk_lasting, nm]
          refine ⟨d, rfl, kd, fun xs e => Nat.le_trans (hd.2 xs e) (by decide), ?_⟩
          have eb : (List.map tb rows).length = rows.length := List.length_map ..
          cases e : isRow d with
          | true =>
            simp only [dSeq, dAsg, dRet, dRetN, dDrop, dRaise, dBreak, dCont, dPar, dAug, dFor, dNext, dSetF, dAugF, dRaiseF, dIfS, dTest, dOp, dVar, dC, dCB, dCons, dNil, dCall, dAndV, dOrV, dNotV, dAndT, dOrT, dNotT, dIf, dTup, dLst, dLstV, dSl, dSlV, oSome, oNone, dNeg, gN, gT, gConsD, gNilD, gSubD, gFldD, dChain, dLc, dBM, isLst, iSeqD, iR1, iR2, iR3, dYes, isn_non, isn_bl, isn_int, isn_str, isn_ref, isn_tup, isn_rol, isn_obj, rdIx_tup, rdIx_rol, rdIx_put, rdSet, rdLen_tup, rdLen_rol, rdLen_str, rdLen_put, rdAppend, rdExt, rdPopAt, rdIsB, isBlV, rdStrI, rdIntS, dFrz, dFld, insOf_put, dMeth, lstOf_rol, lstOf_put, seqOf_tup, seqOf_rol, seqOf_put, frz_tup, frz_rol, frz_int, frz_bl, frz_non, frz_str, frz_obj, startN, wipeD, List.map_cons, List.map_nil, List.length_cons, List.length_nil, Nat.zero_add, Nat.sub_self, Nat.reduceAdd, Nat.reduceSub, List.replicate_succ, List.replicate_zero, List.cons_append, List.nil_append, List.append_nil, List.getElem?_cons_zero, List.getElem?_cons_succ, List.set_cons_zero, List.set_cons_succ, Option.some.injEq, exists_eq_left', atI_0, atI_1, atI_2, atI_3, atI_4, atI_5, atI_6, atI_7, ixN_50, ixN_51, ixN_52, ixN_53, ixN_54, ixN_30, ixN_31, ixN_32, put_same, put_put, true_and, and_true, decide_true, decide_false, Bool.not_true, Bool.not_false, Bool.false_eq_true, if_true, if_false, decide_eq_true_eq, Bool.not_eq_true', decide_eq_false_iff_not, mem_one, ex_one, and_self, xd_mk, qAdd_i, qAdd_t, qAdd_s, qAdd_l, qMul_i, qMul_t, qMul_l, qSub_i, qDiv_i, qMod_i, qPow_i, qIAdd_i, qEq_i, qEq_b, qEq_s, qCmp_i, qIsN, qSl_t, qSl_l, qSl_s, qInt_i, qInt_b, qInt1, qMax, qMin, qList_t, qList_l, i_Disk, l_Disk, h_Disk_write, h_Disk_sync, h_Disk_blocks, h_Disk_synced, h_Disk_cut, h_Disk_drop, h_Disk_copy, g_Disk_rows, p_Disk_rows, k_Disk_rows, g_Disk_lasting, p_Disk_lasting, k_Disk_lasting, rdLen_ref hL.bl, eb]
            refine ⟨slK, x, r1, rows, l, 0, d, rfl, hL.dk, kd, by omega, .inl ⟨rfl, ?_⟩⟩
            rw [e, if_pos rfl]
            intro T2 r2 hm
            obtain ⟨e1, e2, e3⟩ := row_is e
            have ok2 : ∀ w ∈ rows ++ [rowI d], w.length ≤ 8 ∧ Bts w := fun w hw => by
              rcases List.mem_append.mp hw with hw | hw
              · exact hL.ok w hw
              · rw [List.mem_singleton.mp hw]
                refine ⟨?_, e3⟩
                have := hd.2 _ e1
                rw [List.length_map] at this
                omega
            have hL2 := hL.move hm ok2
            refine ne_tup (n := 2) (cl_two (by decide +kernel) trivial) (by decide) ?_
            simp only [dSeq, dAsg, dRet, dRetN, dDrop, dRaise, dBreak, dCont, dPar, dAug, dFor, dNext, dSetF, dAugF, dRaiseF, dIfS, dTest, dOp, dVar, dC, dCB, dCons, dNil, dCall, dAndV, dOrV, dNotV, dAndT, dOrT, dNotT, dIf, dTup, dLst, dLstV, dSl, dSlV, oSome, oNone, dNeg, gN, gT, gConsD, gNilD, gSubD, gFldD, dChain, dLc, dBM, isLst, iSeqD, iR1, iR2, iR3, dYes, isn_non, isn_bl, isn_int, isn_str, isn_ref, isn_tup, isn_rol, isn_obj, rdIx_tup, rdIx_rol, rdIx_put, rdSet, rdLen_tup, rdLen_rol, rdLen_str, rdLen_put, rdAppend, rdExt, rdPopAt, rdIsB, isBlV, rdStrI, rdIntS, dFrz, dFld, insOf_put, dMeth, lstOf_rol, lstOf_put, seqOf_tup, seqOf_rol, seqOf_put, frz_tup, frz_rol, frz_int, frz_bl, frz_non, frz_str, frz_obj, startN, wipeD, List.map_cons, List.map_nil, List.length_cons, List.length_nil, Nat.zero_add, Nat.sub_self, Nat.reduceAdd, Nat.reduceSub, List.replicate_succ, List.replicate_zero, List.cons_append, List.nil_append, List.append_nil, List.getElem?_cons_zero, List.getElem?_cons_succ, List.set_cons_zero, List.set_cons_succ, Option.some.injEq, exists_eq_left', atI_0, atI_1, atI_2, atI_3, atI_4, atI_5, atI_6, atI_7, ixN_50, ixN_51, ixN_52, ixN_53, ixN_54, ixN_30, ixN_31, ixN_32, put_same, put_put, true_and, and_true, decide_true, decide_false, Bool.not_true, Bool.not_false, Bool.false_eq_true, if_true, if_false, decide_eq_true_eq, Bool.not_eq_true', decide_eq_false_iff_not, mem_one, ex_one, and_self, xd_mk, qAdd_i, qAdd_t, qAdd_s, qAdd_l, qMul_i, qMul_t, qMul_l, qSub_i, qDiv_i, qMod_i, qPow_i, qIAdd_i, qEq_i, qEq_b, qEq_s, qCmp_i, qIsN, qSl_t, qSl_l, qSl_s, qInt_i, qInt_b, qInt1, qMax, qMin, qList_t, qList_l, i_Disk, l_Disk, h_Disk_write, h_Disk_sync, h_Disk_blocks, h_Disk_synced, h_Disk_cut, h_Disk_drop, h_Disk_copy, g_Disk_rows, p_Disk_rows, k_Disk_rows, g_Disk_lasting, p_Disk_lasting, k_Disk_lasting]
            rw [hL2.bl]
            have eb2 : List.map tb rows ++ [d] = List.map tb (rows ++ [rowI d]) := by rw [List.map_append, List.map_cons, List.map_nil, tb, ← e1]
            refine ⟨trivial, by rw [sizeLine_eq, eb]; omega, ?_⟩
            rw [eb2]
            exact hN _ _ ⟨r2, rows ++ [rowI d], l, hL2.write _, by rw [List.length_append, List.length_singleton]; omega, _, _, _, _, _, _, _, _, _, _, rfl⟩
          | false =>
            simp only [dSeq, dAsg, dRet, dRetN, dDrop, dRaise, dBreak, dCont, dPar, dAug, dFor, dNext, dSetF, dAugF, dRaiseF, dIfS, dTest, dOp, dVar, dC, dCB, dCons, dNil, dCall, dAndV, dOrV, dNotV, dAndT, dOrT, dNotT, dIf, dTup, dLst, dLstV, dSl, dSlV, oSome, oNone, dNeg, gN, gT, gConsD, gNilD, gSubD, gFldD, dChain, dLc, dBM, isLst, iSeqD, iR1, iR2, iR3, dYes, isn_non, isn_bl, isn_int, isn_str, isn_ref, isn_tup, isn_rol, isn_obj, rdIx_tup, rdIx_rol, rdIx_put, rdSet, rdLen_tup, rdLen_rol, rdLen_str, rdLen_put, rdAppend, rdExt, rdPopAt, rdIsB, isBlV, rdStrI, rdIntS, dFrz, dFld, insOf_put, dMeth, lstOf_rol, lstOf_put, seqOf_tup, seqOf_rol, seqOf_put, frz_tup, frz_rol, frz_int, frz_bl, frz_non, frz_str, frz_obj, startN, wipeD, List.map_cons, List.map_nil, List.length_cons, List.length_nil, Nat.zero_add, Nat.sub_self, Nat.reduceAdd, Nat.reduceSub, List.replicate_succ, List.replicate_zero, List.cons_append, List.nil_append, List.append_nil, List.getElem?_cons_zero, List.getElem?_cons_succ, List.set_cons_zero, List.set_cons_succ, Option.some.injEq, exists_eq_left', atI_0, atI_1, atI_2, atI_3, atI_4, atI_5, atI_6, atI_7, ixN_50, ixN_51, ixN_52, ixN_53, ixN_54, ixN_30, ixN_31, ixN_32, put_same, put_put, true_and, and_true, decide_true, decide_false, Bool.not_true, Bool.not_false, Bool.false_eq_true, if_true, if_false, decide_eq_true_eq, Bool.not_eq_true', decide_eq_false_iff_not, mem_one, ex_one, and_self, xd_mk, qAdd_i, qAdd_t, qAdd_s, qAdd_l, qMul_i, qMul_t, qMul_l, qSub_i, qDiv_i, qMod_i, qPow_i, qIAdd_i, qEq_i, qEq_b, qEq_s, qCmp_i, qIsN, qSl_t, qSl_l, qSl_s, qInt_i, qInt_b, qInt1, qMax, qMin, qList_t, qList_l, i_Disk, l_Disk, h_Disk_write, h_Disk_sync, h_Disk_blocks, h_Disk_synced, h_Disk_cut, h_Disk_drop, h_Disk_copy, g_Disk_rows, p_Disk_rows, k_Disk_rows, g_Disk_lasting, p_Disk_lasting, k_Disk_lasting]
            refine ⟨slK, x, r1, rows, l, 0, d, rfl, hL.dk, kd, by omega, .inl ⟨rfl, ?_⟩⟩
            rw [e, if_neg (by decide)]
            refine ne_tup (n := 2) (cl_two (by decide +kernel) trivial) (by decide) ?_
            simp only [dSeq, dAsg, dRet, dRetN, dDrop, dRaise, dBreak, dCont, dPar, dAug, dFor, dNext, dSetF, dAugF, dRaiseF, dIfS, dTest, dOp, dVar, dC, dCB, dCons, dNil, dCall, dAndV, dOrV, dNotV, dAndT, dOrT, dNotT, dIf, dTup, dLst, dLstV, dSl, dSlV, oSome, oNone, dNeg, gN, gT, gConsD, gNilD, gSubD, gFldD, dChain, dLc, dBM, isLst, iSeqD, iR1, iR2, iR3, dYes, isn_non, isn_bl, isn_int, isn_str, isn_ref, isn_tup, isn_rol, isn_obj, rdIx_tup, rdIx_rol, rdIx_put, rdSet, rdLen_tup, rdLen_rol, rdLen_str, rdLen_put, rdAppend, rdExt, rdPopAt, rdIsB, isBlV, rdStrI, rdIntS, dFrz, dFld, insOf_put, dMeth, lstOf_rol, lstOf_put, seqOf_tup, seqOf_rol, seqOf_put, frz_tup, frz_rol, frz_int, frz_bl, frz_non, frz_str, frz_obj, startN, wipeD, List.map_cons, List.map_nil, List.length_cons, List.length_nil, Nat.zero_add, Nat.sub_self, Nat.reduceAdd, Nat.reduceSub, List.replicate_succ, List.replicate_zero, List.cons_append, List.nil_append, List.append_nil, List.getElem?_cons_zero, List.getElem?_cons_succ, List.set_cons_zero, List.set_cons_succ, Option.some.injEq, exists_eq_left', atI_0, atI_1, atI_2, atI_3, atI_4, atI_5, atI_6, atI_7, ixN_50, ixN_51, ixN_52, ixN_53, ixN_54, ixN_30, ixN_31, ixN_32, put_same, put_put, true_and, and_true, decide_true, decide_false, Bool.not_true, Bool.not_false, Bool.false_eq_true, if_true, if_false, decide_eq_true_eq, Bool.not_eq_true', decide_eq_false_iff_not, mem_one, ex_one, and_self, xd_mk, qAdd_i, qAdd_t, qAdd_s, qAdd_l, qMul_i, qMul_t, qMul_l, qSub_i, qDiv_i, qMod_i, qPow_i, qIAdd_i, qEq_i, qEq_b, qEq_s, qCmp_i, qIsN, qSl_t, qSl_l, qSl_s, qInt_i, qInt_b, qInt1, qMax, qMin, qList_t, qList_l, i_Disk, l_Disk, h_Disk_write, h_Disk_sync, h_Disk_blocks, h_Disk_synced, h_Disk_cut, h_Disk_drop, h_Disk_copy, g_Disk_rows, p_Disk_rows, k_Disk_rows, g_Disk_lasting, p_Disk_lasting, k_Disk_lasting]
            rw [if_neg (by decide +kernel)]
            exact hN _ _ ⟨r1, rows, l, hL, by omega, _, _, _, _, _, _, _, _, _, _, rfl⟩
        refine ifS_F (fun Q X q => ?_) ?_
        · simp only [dSeq, dAsg, dRet, dRetN, dDrop, dRaise, dBreak, dCont, dPar, dAug, dFor, dNext, dSetF, dAugF, dRaiseF, dIfS, dTest, dOp, dVar, dC, dCB, dCons, dNil, dCall, dAndV, dOrV, dNotV, dAndT, dOrT, dNotT, dIf, dTup, dLst, dLstV, dSl, dSlV, rdSlV, oSome, oNone, dNeg, gN, gT, gConsD, gNilD, gSubD, gFldD, dChain, dLc, dBM, isLst, iSeqD, iR1, iR2, iR3, dYes, rdAddV, rdMulV, rdSub, rdDiv, rdMod, rdPow, rdIAdd, rdCmp, rdIsN, isn_non, isn_bl, isn_int, isn_str, isn_ref, isn_tup, isn_rol, isn_obj, rdEqG, rdIx_tup, rdIx_rol, rdIx_put, rdSet, rdLen_tup, rdLen_rol, rdLen_str, rdLen_put, rdInt1, rdInt, rdInt2, rdAppend, rdExt, rdPopAt, rdMaxL, rdMinL, rdListV, rdIsB, isBlV, rdStrI, rdIntS, dFrz, dFld, insOf_put, dMeth, lstOf_rol, lstOf_put, seqOf_tup, seqOf_rol, seqOf_put, frz_tup, frz_rol, frz_int, frz_bl, frz_non, frz_str, frz_obj, startN, wipeD, List.map_cons, List.map_nil, List.length_cons, List.length_nil, Nat.zero_add, Nat.sub_self, Nat.reduceAdd, Nat.reduceSub, List.replicate_succ, List.replicate_zero, List.cons_append, List.nil_append, List.append_nil, List.getElem?_cons_zero, List.getElem?_cons_succ, List.set_cons_zero, List.set_cons_succ, Option.some.injEq, exists_eq_left', DEnds.xd, atI_0, atI_1, atI_2, atI_3, atI_4, atI_5, atI_6, atI_7, ixN_50, ixN_51, ixN_52, ixN_53, ixN_54, ixN_30, ixN_31, ixN_32, put_same, put_put, true_and, and_true, decide_true, decide_false, Bool.not_true, Bool.not_false, Bool.false_eq_true, if_true, if_false, decide_eq_true_eq, Bool.not_eq_true', decide_eq_false_iff_not, mem_one, ex_one, and_self, i_Disk, l_Disk, h_Disk_write, h_Disk_sync, h_Disk_blocks, h_Disk_synced, h_Disk_cut, h_Disk_drop, h_Disk_copy, g_Disk_rows, p_Disk_rows, k_Disk_rows, g_Disk_lasting, p_Disk_lasting, k_Disk_lasting, nm, decide_eq_false h3]
          exact q
        by_cases h4 : k = 3
        · subst h4
          refine ifS_T (fun Q X q => ?_) ?_
          · simp only [dSeq, dAsg, dRet, dRetN, dDrop, dRaise, dBreak, dCont, dPar, dAug, dFor, dNext, dSetF, dAugF, dRaiseF, dIfS, dTest, dOp, dVar, dC, dCB, dCons, dNil, dCall, dAndV, dOrV, dNotV, dAndT, dOrT, dNotT, dIf, dTup, dLst, dLstV, dSl, dSlV, rdSlV, oSome, oNone, dNeg, gN, gT, gConsD, gNilD, gSubD, gFldD, dChain, dLc, dBM, isLst, iSeqD, iR1, iR2, iR3, dYes, rdAddV, rdMulV, rdSub, rdDiv, rdMod, rdPow, rdIAdd, rdCmp, rdIsN, isn_non, isn_bl, isn_int, isn_str, isn_ref, isn_tup, isn_rol, isn_obj, rdEqG, rdIx_tup, rdIx_rol, rdIx_put, rdSet, rdLen_tup, rdLen_rol, rdLen_str, rdLen_put, rdInt1, rdInt, rdInt2, rdAppend, rdExt, rdPopAt, rdMaxL, rdMinL, rdListV, rdIsB, isBlV, rdStrI, rdIntS, dFrz, dFld, insOf_put, dMeth, lstOf_rol, lstOf_put, seqOf_tup, seqOf_rol, seqOf_put, frz_tup, frz_rol, frz_int, frz_bl, frz_non, frz_str, frz_obj, startN, wipeD, List.map_cons, List.map_nil, List.length_cons, List.length_nil, Nat.zero_add, Nat.sub_self, Nat.reduceAdd, Nat.reduceSub, List.replicate_succ, List.replicate_zero, List.cons_append, List.nil_append, List.append_nil, List.getElem?_cons_zero, List.getElem?_cons_succ, List.set_cons_zero, List.set_cons_succ, Option.some.injEq, exists_eq_left', DEnds.xd, atI_0, atI_1, atI_2, atI_3, atI_4, atI_5, atI_6, atI_7, ixN_50, ixN_51, ixN_52, ixN_53, ixN_54, ixN_30, ixN_31, ixN_32, put_same, put_put, true_and, and_true, decide_true, decide_false, Bool.not_true, Bool.not_false, Bool.false_eq_true, if_true, if_false, decide_eq_true_eq, Bool.not_eq_true', decide_eq_false_iff_not, mem_one, ex_one, and_self, i_Disk, l_Disk, h_Disk_write, h_Disk_sync, h_Disk_blocks, h_Disk_synced, h_Disk_cut, h_Disk_drop, h_Disk_copy, g_Disk_rows, p_Disk_rows, k_Disk_rows, g_Disk_lasting, p_Disk_lasting, k_Disk_lasting, nm]
            exact q
          obtain ⟨dx, ho⟩ := hL.dk.obj
          simp only [dSeq, dAsg, dRet, dRetN, dDrop, dRaise, dBreak, dCont, dPar, dAug, dFor, dNext, dSetF, dAugF, dRaiseF, dIfS, dTest, dOp, dVar, dC, dCB, dCons, dNil, dCall, dAndV, dOrV, dNotV, dAndT, dOrT, dNotT, dIf, dTup, dLst, dLstV, dSl, dSlV, oSome, oNone, dNeg, gN, gT, gConsD, gNilD, gSubD, gFldD, dChain, dLc, dBM, isLst, iSeqD, iR1, iR2, iR3, dYes, isn_non, isn_bl, isn_int, isn_str, isn_ref, isn_tup, isn_rol, isn_obj, rdIx_tup, rdIx_rol, rdIx_put, rdSet, rdLen_tup, rdLen_rol, rdLen_str, rdLen_put, rdAppend, rdExt, rdPopAt, rdIsB, isBlV, rdStrI, rdIntS, dFrz, dFld, insOf_put, dMeth, lstOf_rol, lstOf_put, seqOf_tup, seqOf_rol, seqOf_put, frz_tup, frz_rol, frz_int, frz_bl, frz_non, frz_str, frz_obj, startN, wipeD, List.map_cons, List.map_nil, List.length_cons, List.length_nil, Nat.zero_add, Nat.sub_self, Nat.reduceAdd, Nat.reduceSub, List.replicate_succ, List.replicate_zero, List.cons_append, List.nil_append, List.append_nil, List.getElem?_cons_zero, List.getElem?_cons_succ, List.set_cons_zero, List.set_cons_succ, Option.some.injEq, exists_eq_left', atI_0, atI_1, atI_2, atI_3, atI_4, atI_5, atI_6, atI_7, ixN_50, ixN_51, ixN_52, ixN_53, ixN_54, ixN_30, ixN_31, ixN_32, put_same, put_put, true_and, and_true, decide_true, decide_false, Bool.not_true, Bool.not_false, Bool.false_eq_true, if_true, if_false, decide_eq_true_eq, Bool.not_eq_true', decide_eq_false_iff_not, mem_one, ex_one, and_self, xd_mk, qAdd_i, qAdd_t, qAdd_s, qAdd_l, qMul_i, qMul_t, qMul_l, qSub_i, qDiv_i, qMod_i, qPow_i, qIAdd_i, qEq_i, qEq_b, qEq_s, qCmp_i, qIsN, qSl_t, qSl_l, qSl_s, qInt_i, qInt_b, qInt1, qMax, qMin, qList_t, qList_l, i_Disk, l_Disk, h_Disk_write, h_Disk_sync, h_Disk_blocks, h_Disk_synced, h_Disk_cut, h_Disk_drop, h_Disk_copy, g_Disk_rows, p_Disk_rows, k_Disk_rows, g_Disk_lasting, p_Disk_lasting, k_Disk_lasting, nm, insOf_ref ho]
          refine ⟨x, r1, rows, l, rfl, hL.dk, fun T2 hD hO => ?_⟩
          have hL2 := hL.move ⟨hD, .inl rfl, hO.wide fun p hp => by simp at hp; simp [hp]⟩ hL.ok
          have eb : (List.map tb rows).length = rows.length := List.length_map ..
          simp only [dSeq, dAsg, dRet, dRetN, dDrop, dRaise, dBreak, dCont, dPar, dAug, dFor, dNext, dSetF, dAugF, dRaiseF, dIfS, dTest, dOp, dVar, dC, dCB, dCons, dNil, dCall, dAndV, dOrV, dNotV, dAndT, dOrT, dNotT, dIf, dTup, dLst, dLstV, dSl, dSlV, oSome, oNone, dNeg, gN, gT, gConsD, gNilD, gSubD, gFldD, dChain, dLc, dBM, isLst, iSeqD, iR1, iR2, iR3, dYes, isn_non, isn_bl, isn_int, isn_str, isn_ref, isn_tup, isn_rol, isn_obj, rdIx_tup, rdIx_rol, rdIx_put, rdSet, rdLen_tup, rdLen_rol, rdLen_str, rdLen_put, rdAppend, rdExt, rdPopAt, rdIsB, isBlV, rdStrI, rdIntS, dFrz, dFld, insOf_put, dMeth, lstOf_rol, lstOf_put, seqOf_tup, seqOf_rol, seqOf_put, frz_tup, frz_rol, frz_int, frz_bl, frz_non, frz_str, frz_obj, startN, wipeD, List.map_cons, List.map_nil, List.length_cons, List.length_nil, Nat.zero_add, Nat.sub_self, Nat.reduceAdd, Nat.reduceSub, List.replicate_succ, List.replicate_zero, List.cons_append, List.nil_append, List.append_nil, List.getElem?_cons_zero, List.getElem?_cons_succ, List.set_cons_zero, List.set_cons_succ, Option.some.injEq, exists_eq_left', atI_0, atI_1, atI_2, atI_3, atI_4, atI_5, atI_6, atI_7, ixN_50, ixN_51, ixN_52, ixN_53, ixN_54, ixN_30, ixN_31, ixN_32, put_same, put_put, true_and, and_true, decide_true, decide_false, Bool.not_true, Bool.not_false, Bool.false_eq_true, if_true, if_false, decide_eq_true_eq, Bool.not_eq_true', decide_eq_false_iff_not, mem_one, ex_one, and_self, xd_mk, qAdd_i, qAdd_t, qAdd_s, qAdd_l, qMul_i, qMul_t, qMul_l, qSub_i, qDiv_i, qMod_i, qPow_i, qIAdd_i, qEq_i, qEq_b, qEq_s, qCmp_i, qIsN, qSl_t, qSl_l, qSl_s, qInt_i, qInt_b, qInt1, qMax, qMin, qList_t, qList_l, i_Disk, l_Disk, h_Disk_write, h_Disk_sync, h_Disk_blocks, h_Disk_synced, h_Disk_cut, h_Disk_drop, h_Disk_copy, g_Disk_rows, p_Disk_rows, k_Disk_rows, g_Disk_lasting, p_Disk_lasting, k_Disk_lasting, rdLen_ref hL2.bl, eb]
          have hle := hL.dk.le
          refine ⟨_, _, .int ((rows.length : Int) - l), rfl, rfl, rfl, shw_int (by omega), ?_⟩
          simp only [dSeq, dAsg, dRet, dRetN, dDrop, dRaise, dBreak, dCont, dPar, dAug, dFor, dNext, dSetF, dAugF, dRaiseF, dIfS, dTest, dOp, dVar, dC, dCB, dCons, dNil, dCall, dAndV, dOrV, dNotV, dAndT, dOrT, dNotT, dIf, dTup, dLst, dLstV, dSl, dSlV, oSome, oNone, dNeg, gN, gT, gConsD, gNilD, gSubD, gFldD, dChain, dLc, dBM, isLst, iSeqD, iR1, iR2, iR3, dYes, isn_non, isn_bl, isn_int, isn_str, isn_ref, isn_tup, isn_rol, isn_obj, rdIx_tup, rdIx_rol, rdIx_put, rdSet, rdLen_tup, rdLen_rol, rdLen_str, rdLen_put, rdAppend, rdExt, rdPopAt, rdIsB, isBlV, rdStrI, rdIntS, dFrz, dFld, insOf_put, dMeth, lstOf_rol, lstOf_put, seqOf_tup, seqOf_rol, seqOf_put, frz_tup, frz_rol, frz_int, frz_bl, frz_non, frz_str, frz_obj, startN, wipeD, List.map_cons, List.map_nil, List.length_cons, List.length_nil, Nat.zero_add, Nat.sub_self, Nat.reduceAdd, Nat.reduceSub, List.replicate_succ, List.replicate_zero, List.cons_append, List.nil_append, List.append_nil, List.getElem?_cons_zero, List.getElem?_cons_succ, List.set_cons_zero, List.set_cons_succ, Option.some.injEq, exists_eq_left', atI_0, atI_1, atI_2, atI_3, atI_4, atI_5, atI_6, atI_7, ixN_50, ixN_51, ixN_52, ixN_53, ixN_54, ixN_30, ixN_31, ixN_32, put_same, put_put, true_and, and_true, decide_true, decide_false, Bool.not_true, Bool.not_false, Bool.false_eq_true, if_true, if_false, decide_eq_true_eq, Bool.not_eq_true', decide_eq_false_iff_not, mem_one, ex_one, and_self, xd_mk, qAdd_i, qAdd_t, qAdd_s, qAdd_l, qMul_i, qMul_t, qMul_l, qSub_i, qDiv_i, qMod_i, qPow_i, qIAdd_i, qEq_i, qEq_b, qEq_s, qCmp_i, qIsN, qSl_t, qSl_l, qSl_s, qInt_i, qInt_b, qInt1, qMax, qMin, qList_t, qList_l, i_Disk, l_Disk, h_Disk_write, h_Disk_sync, h_Disk_blocks, h_Disk_synced, h_Disk_cut, h_Disk_drop, h_Disk_copy, g_Disk_rows, p_Disk_rows, k_Disk_rows, g_Disk_lasting, p_Disk_lasting, k_Disk_lasting, rdLen_ref hL2.bl, eb]
          exact hN _ _ ⟨r1, rows, rows.length, hL2, by omega, _, _, _, _, _, _, _, _, _, _, rfl⟩
        refine ifS_F (fun Q X q => ?_) ?_
        · simp only [dSeq, dAsg, dRet, dRetN, dDrop, dRaise, dBreak, dCont, dPar, dAug, dFor, dNext, dSetF, dAugF, dRaiseF, dIfS, dTest, dOp, dVar, dC, dCB, dCons, dNil, dCall, dAndV, dOrV, dNotV, dAndT, dOrT, dNotT, dIf, dTup, dLst, dLstV, dSl, dSlV, rdSlV, oSome, oNone, dNeg, gN, gT, gConsD, gNilD, gSubD, gFldD, dChain, dLc, dBM, isLst, iSeqD, iR1, iR2, iR3, dYes, rdAddV, rdMulV, rdSub, rdDiv, rdMod, rdPow, rdIAdd, rdCmp, rdIsN, isn_non, isn_bl, isn_int, isn_str, isn_ref, isn_tup, isn_rol, isn_obj, rdEqG, rdIx_tup, rdIx_rol, rdIx_put, rdSet, rdLen_tup, rdLen_rol, rdLen_str, rdLen_put, rdInt1, rdInt, rdInt2, rdAppend, rdExt, rdPopAt, rdMaxL, rdMinL, rdListV, rdIsB, isBlV, rdStrI, rdIntS, dFrz, dFld, insOf_put, dMeth, lstOf_rol, lstOf_put, seqOf_tup, seqOf_rol, seqOf_put, frz_tup, frz_rol, frz_int, frz_bl, frz_non, frz_str, frz_obj, startN, wipeD, List.map_cons, List.map_nil, List.length_cons, List.length_nil, Nat.zero_add, Nat.sub_self, Nat.reduceAdd, Nat.reduceSub, List.replicate_succ, List.replicate_zero, List.cons_append, List.nil_append, List.append_nil, List.getElem?_cons_zero, List.getElem?_cons_succ, List.set_cons_zero, List.set_cons_succ, Option.some.injEq, exists_eq_left', DEnds.xd, atI_0, atI_1, atI_2, atI_3, atI_4, atI_5, atI_6, atI_7, ixN_50, ixN_51, ixN_52, ixN_53, ixN_54, ixN_30, ixN_31, ixN_32, put_same, put_put, true_and, and_true, decide_true, decide_false, Bool.not_true, Bool.not_false, Bool.false_eq_true, if_true, if_false, decide_eq_true_eq, Bool.not_eq_true', decide_eq_false_iff_not, mem_one, ex_one, and_self, i_Disk, l_Disk, h_Disk_write, h_Disk_sync, h_Disk_blocks, h_Disk_synced, h_Disk_cut, h_Disk_drop, h_Disk_copy, g_Disk_rows, p_Disk_rows, k_Disk_rows, g_Disk_lasting, p_Disk_lasting, k_Disk_lasting, nm, decide_eq_false h4]
          exact q
        by_cases h5 : k = 4
        · subst h5
          refine ifS_T (fun Q X q => ?_) ?_
          · simp only [dSeq, dAsg, dRet, dRetN, dDrop, dRaise, dBreak, dCont, dPar, dAug, dFor, dNext, dSetF, dAugF, dRaiseF, dIfS, dTest, dOp, dVar, dC, dCB, dCons, dNil, dCall, dAndV, dOrV, dNotV, dAndT, dOrT, dNotT, dIf, dTup, dLst, dLstV, dSl, dSlV, rdSlV, oSome, oNone, dNeg, gN, gT, gConsD, gNilD, gSubD, gFldD, dChain, dLc, dBM, isLst, iSeqD, iR1, iR2, iR3, dYes, rdAddV, rdMulV, rdSub, rdDiv, rdMod, rdPow, rdIAdd, rdCmp, rdIsN, isn_non, isn_bl, isn_int, isn_str, isn_ref, isn_tup, isn_rol, isn_obj, rdEqG, rdIx_tup, rdIx_rol, rdIx_put, rdSet, rdLen_tup, rdLen_rol, rdLen_str, rdLen_put, rdInt1, rdInt, rdInt2, rdAppend, rdExt, rdPopAt, rdMaxL, rdMinL, rdListV, rdIsB, isBlV, rdStrI, rdIntS, dFrz, dFld, insOf_put, dMeth, lstOf_rol, lstOf_put, seqOf_tup, seqOf_rol, seqOf_put, frz_tup, frz_rol, frz_int, frz_bl, frz_non, frz_str, frz_obj, startN, wipeD, List.map_cons, List.map_nil, List.length_cons, List.length_nil, Nat.zero_add, Nat.sub_self, Nat.reduceAdd, Nat.reduceSub, List.replicate_succ, List.replicate_zero, List.cons_append, List.nil_append, List.append_nil, List.getElem?_cons_zero, List.getElem?_cons_succ, List.set_cons_zero, List.set_cons_succ, Option.some.injEq, exists_eq_left', DEnds.xd, atI_0, atI_1, atI_2, atI_3, atI_4, atI_5, atI_6, atI_7, ixN_50, ixN_51, ixN_52, ixN_53, ixN_54, ixN_30, ixN_31, ixN_32, put_same, put_put, true_and, and_true, decide_true, decide_false, Bool.not_true, Bool.not_false, Bool.false_eq_true, if_true, if_false, decide_eq_true_eq, Bool.not_eq_true', decide_eq_false_iff_not, mem_one, ex_one, and_self, i_Disk, l_Disk, h_Disk_write, h_Disk_sync, h_Disk_blocks, h_Disk_synced, h_Disk_cut, h_Disk_drop, h_Disk_copy, g_Disk_rows, p_Disk_rows, k_Disk_rows, g_Disk_lasting, p_Disk_lasting, k_Disk_lasting, nm]
            exact q
          have hle := hL.dk.le
          refine cut_seq (fun ρ T => Led A S T a c x r b r1 rows rows l ∧ ∃ (ks : List Int) (y13 : Option Dv), ks.length ≤ 200 ∧ ρ = nm a x b l n [y5, some (.int 4), y7, y8, y9, some (.tup (ks.map Dv.int)), y11, y12, y13, y14]) (fun N hN => ?_) fun ρ T hM => ?_
          · simp only [dSeq, dAsg, dRet, dRetN, dDrop, dRaise, dBreak, dCont, dPar, dAug, dFor, dNext, dSetF, dAugF, dRaiseF, dIfS, dTest, dOp, dVar, dC, dCB, dCons, dNil, dCall, dAndV, dOrV, dNotV, dAndT, dOrT, dNotT, dIf, dTup, dLst, dLstV, dSl, dSlV, oSome, oNone, dNeg, gN, gT, gConsD, gNilD, gSubD, gFldD, dChain, dLc, dBM, isLst, iSeqD, iR1, iR2, iR3, dYes, isn_non, isn_bl, isn_int, isn_str, isn_ref, isn_tup, isn_rol, isn_obj, rdIx_tup, rdIx_rol, rdIx_put, rdSet, rdLen_tup, rdLen_rol, rdLen_str, rdLen_put, rdAppend, rdExt, rdPopAt, rdIsB, isBlV, rdStrI, rdIntS, dFrz, dFld, insOf_put, dMeth, lstOf_rol, lstOf_put, seqOf_tup, seqOf_rol, seqOf_put, frz_tup, frz_rol, frz_int, frz_bl, frz_non, frz_str, frz_obj, startN, wipeD, List.map_cons, List.map_nil, List.length_cons, List.length_nil, Nat.zero_add, Nat.sub_self, Nat.reduceAdd, Nat.reduceSub, List.replicate_succ, List.replicate_zero, List.cons_append, List.nil_append, List.append_nil, List.getElem?_cons_zero, List.getElem?_cons_succ, List.set_cons_zero, List.set_cons_succ, Option.some.injEq, exists_eq_left', atI_0, atI_1, atI_2, atI_3, atI_4, atI_5, atI_6, atI_7, ixN_50, ixN_51, ixN_52, ixN_53, ixN_54, ixN_30, ixN_31, ixN_32, put_same, put_put, true_and, and_true, decide_true, decide_false, Bool.not_true, Bool.not_false, Bool.false_eq_true, if_true, if_false, decide_eq_true_eq, Bool.not_eq_true', decide_eq_false_iff_not, mem_one, ex_one, and_self, xd_mk, qAdd_i, qAdd_t, qAdd_s, qAdd_l, qMul_i, qMul_t, qMul_l, qSub_i, qDiv_i, qMod_i, qPow_i, qIAdd_i, qEq_i, qEq_b, qEq_s, qCmp_i, qIsN, qSl_t, qSl_l, qSl_s, qInt_i, qInt_b, qInt1, qMax, qMin, qList_t, qList_l, i_Disk, l_Disk, h_Disk_write, h_Disk_sync, h_Disk_blocks, h_Disk_synced, h_Disk_cut, h_Disk_drop, h_Disk_copy, g_Disk_rows, p_Disk_rows, k_Disk_rows, g_Disk_lasting, p_Disk_lasting, k_Disk_lasting, nm, slV_ref hL.bl, cut_drop2]
            refine lcV_hand (fun _ y => ∃ r, y = .int r ∧ True) hL.hd (by rw [sizeLine_eq, List.length_map, List.length_drop]; omega) (fun _ _ _ _ => trivial) (fun i z hz B' T2 K hB hT k => ?_) fun acc T2 h2 hlen hacc => ?_
            · obtain ⟨w, hw, rfl⟩ := mem_tb (List.mem_of_getElem? hz)
              have hw8 := (hL.ok w (List.mem_of_mem_drop hw)).1
              simp only [dSeq, dAsg, dRet, dRetN, dDrop, dRaise, dBreak, dCont, dPar, dAug, dFor, dNext, dSetF, dAugF, dRaiseF, dIfS, dTest, dOp, dVar, dC, dCB, dCons, dNil, dCall, dAndV, dOrV, dNotV, dAndT, dOrT, dNotT, dIf, dTup, dLst, dLstV, dSl, dSlV, oSome, oNone, dNeg, gN, gT, gConsD, gNilD, gSubD, gFldD, dChain, dLc, dBM, isLst, iSeqD, iR1, iR2, iR3, dYes, isn_non, isn_bl, isn_int, isn_str, isn_ref, isn_tup, isn_rol, isn_obj, rdIx_tup, rdIx_rol, rdIx_put, rdSet, rdLen_tup, rdLen_rol, rdLen_str, rdLen_put, rdAppend, rdExt, rdPopAt, rdIsB, isBlV, rdStrI, rdIntS, dFrz, dFld, insOf_put, dMeth, lstOf_rol, lstOf_put, seqOf_tup, seqOf_rol, seqOf_put, frz_tup, frz_rol, frz_int, frz_bl, frz_non, frz_str, frz_obj, startN, wipeD, List.map_cons, List.map_nil, List.length_cons, List.length_nil, Nat.zero_add, Nat.sub_self, Nat.reduceAdd, Nat.reduceSub, List.replicate_succ, List.replicate_zero, List.cons_append, List.nil_append, List.append_nil, List.getElem?_cons_zero, List.getElem?_cons_succ, List.set_cons_zero, List.set_cons_succ, Option.some.injEq, exists_eq_left', atI_0, atI_1, atI_2, atI_3, atI_4, atI_5, atI_6, atI_7, ixN_50, ixN_51, ixN_52, ixN_53, ixN_54, ixN_30, ixN_31, ixN_32, put_same, put_put, true_and, and_true, decide_true, decide_false, Bool.not_true, Bool.not_false, Bool.false_eq_true, if_true, if_false, decide_eq_true_eq, Bool.not_eq_true', decide_eq_false_iff_not, mem_one, ex_one, and_self, xd_mk, qAdd_i, qAdd_t, qAdd_s, qAdd_l, qMul_i, qMul_t, qMul_l, qSub_i, qDiv_i, qMod_i, qPow_i, qIAdd_i, qEq_i, qEq_b, qEq_s, qCmp_i, qIsN, qSl_t, qSl_l, qSl_s, qInt_i, qInt_b, qInt1, qMax, qMin, qList_t, qList_l, i_Disk, l_Disk, h_Disk_write, h_Disk_sync, h_Disk_blocks, h_Disk_synced, h_Disk_cut, h_Disk_drop, h_Disk_copy, g_Disk_rows, p_Disk_rows, k_Disk_rows, g_Disk_lasting, p_Disk_lasting, k_Disk_lasting]
              rw [List.length_map]
              exact ask hT (fun r T' ht h1 h2 => k _ _ ⟨r, rfl, trivial⟩ ht) (by omega) (by omega)
            · obtain ⟨ks, rfl, _⟩ := ints_of (P := fun _ => True) hacc
              rw [List.length_map, List.length_map, List.length_drop] at hlen
              exact tup_rol (hN _ _ ⟨hL.draw h2, ks, _, by omega, rfl⟩)
          clear hL
          obtain ⟨hL, ks, y13, hkl, rfl⟩ := hM
          refine cut_seq (fun ρ T => Led A S T a c x r b r1 rows rows l ∧ ∃ d, Tame A T 1000 d ∧ ρ = nm a x b l n [y5, some (.int 4), y7, some d, y9, some (.tup (ks.map Dv.int)), y11, y12, y13, y14]) (fun N hN => ?_) fun ρ T hM => ?_
          · simp only [dSeq, dAsg, dRet, dRetN, dDrop, dRaise, dBreak, dCont, dPar, dAug, dFor, dNext, dSetF, dAugF, dRaiseF, dIfS, dTest, dOp, dVar, dC, dCB, dCons, dNil, dCall, dAndV, dOrV, dNotV, dAndT, dOrT, dNotT, dIf, dTup, dLst, dLstV, dSl, dSlV, oSome, oNone, dNeg, gN, gT, gConsD, gNilD, gSubD, gFldD, dChain, dLc, dBM, isLst, iSeqD, iR1, iR2, iR3, dYes, isn_non, isn_bl, isn_int, isn_str, isn_ref, isn_tup, isn_rol, isn_obj, rdIx_tup, rdIx_rol, rdIx_put, rdSet, rdLen_tup, rdLen_rol, rdLen_str, rdLen_put, rdAppend, rdExt, rdPopAt, rdIsB, isBlV, rdStrI, rdIntS, dFrz, dFld, insOf_put, dMeth, lstOf_rol, lstOf_put, seqOf_tup, seqOf_rol, seqOf_put, frz_tup, frz_rol, frz_int, frz_bl, frz_non, frz_str, frz_obj, startN, wipeD, List.map_cons, List.map_nil, List.length_cons, List.length_nil, Nat.zero_add, Nat.sub_self, Nat.reduceAdd, Nat.reduceSub, List.replicate_succ, List.replicate_zero, List.cons_append, List.nil_append, List.append_nil, List.getElem?_cons_zero, List.getElem?_cons_succ, List.set_cons_zero, List.set_cons_succ, Option.some.injEq, exists_eq_left', atI_0, atI_1, atI_2, atI_3, atI_4, atI_5, atI_6, atI_7, ixN_50, ixN_51, ixN_52, ixN_53, ixN_54, ixN_30, ixN_31, ixN_32, put_same, put_put, true_and, and_true, decide_true, decide_false, Bool.not_true, Bool.not_false, Bool.false_eq_true, if_true, if_false, decide_eq_true_eq, Bool.not_eq_true', decide_eq_false_iff_not, mem_one, ex_one, and_self, xd_mk, qAdd_i, qAdd_t, qAdd_s, qAdd_l, qMul_i, qMul_t, qMul_l, qSub_i, qDiv_i, qMod_i, qPow_i, qIAdd_i, qEq_i, qEq_b, qEq_s, qCmp_i, qIsN, qSl_t, qSl_l, qSl_s, qInt_i, qInt_b, qInt1, qMax, qMin, qList_t, qList_l, i_Disk, l_Disk, h_Disk_write, h_Disk_sync, h_Disk_blocks, h_Disk_synced, h_Disk_cut, h_Disk_drop, h_Disk_copy, g_Disk_rows, p_Disk_rows, k_Disk_rows, g_Disk_lasting, p_Disk_lasting, k_Disk_lasting, nm]
            (refine ask hL.hd (fun m T1 h1 a1 b1 => ?_) (by first | decide | omega) (by first | decide | omega); try simp only [dSeq, dAsg, dRet, dRetN, dDrop, dRaise, dBreak, dCont, dPar, dAug, dFor, dNext, dSetF, dAugF, dRaiseF, dIfS, dTest, dOp, dVar, dC, dCB, dCons, dNil, dCall, dAndV, dOrV, dNotV, dAndT, dOrT, dNotT, dIf, dTup, dLst, dLstV, dSl, dSlV, oSome, oNone, dNeg, gN, gT, gConsD, gNilD, gSubD, gFldD, dChain, dLc, dBM, isLst, iSeqD, iR1, iR2, iR3, dYes, isn_non, isn_bl, isn_int, isn_str, isn_ref, isn_tup, isn_rol, isn_obj, rdIx_tup, rdIx_rol, rdIx_put, rdSet, rdLen_tup, rdLen_rol, rdLen_str, rdLen_put, rdAppend, rdExt, rdPopAt, rdIsB, isBlV, rdStrI, rdIntS, dFrz, dFld, insOf_put, dMeth, lstOf_rol, lstOf_put, seqOf_tup, seqOf_rol, seqOf_put, frz_tup, frz_rol, frz_int, frz_bl, frz_non, frz_str, frz_obj, startN, wipeD, List.map_cons, List.map_nil, List.length_cons, List.length_nil, Nat.zero_add, Nat.sub_self, Nat.reduceAdd, Nat.reduceSub, List.replicate_succ, List.replicate_zero, List.cons_append, List.nil_append, List.append_nil, List.getElem?_cons_zero, List.getElem?_cons_succ, List.set_cons_zero, List.set_cons_succ, Option.some.injEq, exists_eq_left', atI_0, atI_1, atI_2, atI_3, atI_4, atI_5, atI_6, atI_7, ixN_50, ixN_51, ixN_52, ixN_53, ixN_54, ixN_30, ixN_31, ixN_32, put_same, put_put, true_and, and_true, decide_true, decide_false, Bool.not_true, Bool.not_false, Bool.false_eq_true, if_true, if_false, decide_eq_true_eq, Bool.not_eq_true', decide_eq_false_iff_not, mem_one, ex_one, and_self, xd_mk, qAdd_i, qAdd_t, qAdd_s, qAdd_l, qMul_i, qMul_t, qMul_l, qSub_i, qDiv_i, qMod_i, qPow_i, qIAdd_i, qEq_i, qEq_b, qEq_s, qCmp_i, qIsN, qSl_t, qSl_l, qSl_s, qInt_i, qInt_b, qInt1, qMax, qMin, qList_t, qList_l, i_Disk, l_Disk, h_Disk_write, h_Disk_sync, h_Disk_blocks, h_Disk_synced, h_Disk_cut, h_Disk_drop, h_Disk_copy, g_Disk_rows, p_Disk_rows, k_Disk_rows, g_Disk_lasting, p_Disk_lasting, k_Disk_lasting])
            have hL1 := hL.draw h1
            by_cases hm : m = 0
            · rw [if_pos hm]
              exact ⟨a, c, T1, ks, rfl, hL1.hd, by omega, fun d B' T2 hs hh ht => hN _ _ ⟨hL1.step hs hh, d, ht.mono (by omega) (Sub.refl _), rfl⟩⟩
            · rw [if_neg hm]
              exact hN _ _ ⟨hL1, _, Tame.tup (by rw [List.length_map]; omega) pl_ints, rfl⟩
          clear hL
          obtain ⟨hL, d, hd, rfl⟩ := hM
          have kd := hd.1 T (Sub.refl T)
          obtain ⟨dx, ho⟩ := hL.dk.obj
          simp only [dSeq, dAsg, dRet, dRetN, dDrop, dRaise, dBreak, dCont, dPar, dAug, dFor, dNext, dSetF, dAugF, dRaiseF, dIfS, dTest, dOp, dVar, dC, dCB, dCons, dNil, dCall, dAndV, dOrV, dNotV, dAndT, dOrT, dNotT, dIf, dTup, dLst, dLstV, dSl, dSlV, oSome, oNone, dNeg, gN, gT, gConsD, gNilD, gSubD, gFldD, dChain, dLc, dBM, isLst, iSeqD, iR1, iR2, iR3, dYes, isn_non, isn_bl, isn_int, isn_str, isn_ref, isn_tup, isn_rol, isn_obj, rdIx_tup, rdIx_rol, rdIx_put, rdSet, rdLen_tup, rdLen_rol, rdLen_str, rdLen_put, rdAppend, rdExt, rdPopAt, rdIsB, isBlV, rdStrI, rdIntS, dFrz, dFld, insOf_put, dMeth, lstOf_rol, lstOf_put, seqOf_tup, seqOf_rol, seqOf_put, frz_tup, frz_rol, frz_int, frz_bl, frz_non, frz_str, frz_obj, startN, wipeD, List.map_cons, List.map_nil, List.length_cons, List.length_nil, Nat.zero_add, Nat.sub_self, Nat.reduceAdd, Nat.reduceSub, List.replicate_succ, List.replicate_zero, List.cons_append, List.nil_append, List.append_nil, List.getElem?_cons_zero, List.getElem?_cons_succ, List.set_cons_zero, List.set_cons_succ, Option.some.injEq, exists_eq_left', atI_0, atI_1, atI_2, atI_3, atI_4, atI_5, atI_6, atI_7, ixN_50, ixN_51, ixN_52, ixN_53, ixN_54, ixN_30, ixN_31, ixN_32, put_same, put_put, true_and, and_true, decide_true, decide_false, Bool.not_true, Bool.not_false, Bool.false_eq_true, if_true, if_false, decide_eq_true_eq, Bool.not_eq_true', decide_eq_false_iff_not, mem_one, ex_one, and_self, xd_mk, qAdd_i, qAdd_t, qAdd_s, qAdd_l, qMul_i, qMul_t, qMul_l, qSub_i, qDiv_i, qMod_i, qPow_i, qIAdd_i, qEq_i, qEq_b, qEq_s, qCmp_i, qIsN, qSl_t, qSl_l, qSl_s, qInt_i, qInt_b, qInt1, qMax, qMin, qList_t, qList_l, i_Disk, l_Disk, h_Disk_write, h_Disk_sync, h_Disk_blocks, h_Disk_synced, h_Disk_cut, h_Disk_drop, h_Disk_copy, g_Disk_rows, p_Disk_rows, k_Disk_rows, g_Disk_lasting, p_Disk_lasting, k_Disk_lasting, nm]
          refine ⟨b, rows, l, d, rfl, hL.bl, hL.dk.le, by omega, kd, ?_⟩
          simp only [dSeq, dAsg, dRet, dRetN, dDrop, dRaise, dBreak, dCont, dPar, dAug, dFor, dNext, dSetF, dAugF, dRaiseF, dIfS, dTest, dOp, dVar, dC, dCB, dCons, dNil, dCall, dAndV, dOrV, dNotV, dAndT, dOrT, dNotT, dIf, dTup, dLst, dLstV, dSl, dSlV, oSome, oNone, dNeg, gN, gT, gConsD, gNilD, gSubD, gFldD, dChain, dLc, dBM, isLst, iSeqD, iR1, iR2, iR3, dYes, isn_non, isn_bl, isn_int, isn_str, isn_ref, isn_tup, isn_rol, isn_obj, rdIx_tup, rdIx_rol, rdIx_put, rdSet, rdLen_tup, rdLen_rol, rdLen_str, rdLen_put, rdAppend, rdExt, rdPopAt, rdIsB, isBlV, rdStrI, rdIntS, dFrz, dFld, insOf_put, dMeth, lstOf_rol, lstOf_put, seqOf_tup, seqOf_rol, seqOf_put, frz_tup, frz_rol, frz_int, frz_bl, frz_non, frz_str, frz_obj, startN, wipeD, List.map_cons, List.map_nil, List.length_cons, List.length_nil, Nat.zero_add, Nat.sub_self, Nat.reduceAdd, Nat.reduceSub, List.replicate_succ, List.replicate_zero, List.cons_append, List.nil_append, List.append_nil, List.getElem?_cons_zero, List.getElem?_cons_succ, List.set_cons_zero, List.set_cons_succ, Option.some.injEq, exists_eq_left', atI_0, atI_1, atI_2, atI_3, atI_4, atI_5, atI_6, atI_7, ixN_50, ixN_51, ixN_52, ixN_53, ixN_54, ixN_30, ixN_31, ixN_32, put_same, put_put, true_and, and_true, decide_true, decide_false, Bool.not_true, Bool.not_false, Bool.false_eq_true, if_true, if_false, decide_eq_true_eq, Bool.not_eq_true', decide_eq_false_iff_not, mem_one, ex_one, and_self, xd_mk, qAdd_i, qAdd_t, qAdd_s, qAdd_l, qMul_i, qMul_t, qMul_l, qSub_i, qDiv_i, qMod_i, qPow_i, qIAdd_i, qEq_i, qEq_b, qEq_s, qCmp_i, qIsN, qSl_t, qSl_l, qSl_s, qInt_i, qInt_b, qInt1, qMax, qMin, qList_t, qList_l, i_Disk, l_Disk, h_Disk_write, h_Disk_sync, h_Disk_blocks, h_Disk_synced, h_Disk_cut, h_Disk_drop, h_Disk_copy, g_Disk_rows, p_Disk_rows, k_Disk_rows, g_Disk_lasting, p_Disk_lasting, k_Disk_lasting]
          refine ⟨x, r1, rows, l, 1, d, rfl, hL.dk, kd, by omega, .inr (.inl ⟨rfl, ?_⟩)⟩
          cases e : cutOk (rows.drop l) d with
          | true =>
            rw [if_pos rfl]
            intro T2 r2 hm
            have hL2 := hL.move hm (ok_cut hL.ok)
            simp only [dSeq, dAsg, dRet, dRetN, dDrop, dRaise, dBreak, dCont, dPar, dAug, dFor, dNext, dSetF, dAugF, dRaiseF, dIfS, dTest, dOp, dVar, dC, dCB, dCons, dNil, dCall, dAndV, dOrV, dNotV, dAndT, dOrT, dNotT, dIf, dTup, dLst, dLstV, dSl, dSlV, oSome, oNone, dNeg, gN, gT, gConsD, gNilD, gSubD, gFldD, dChain, dLc, dBM, isLst, iSeqD, iR1, iR2, iR3, dYes, isn_non, isn_bl, isn_int, isn_str, isn_ref, isn_tup, isn_rol, isn_obj, rdIx_tup, rdIx_rol, rdIx_put, rdSet, rdLen_tup, rdLen_rol, rdLen_str, rdLen_put, rdAppend, rdExt, rdPopAt, rdIsB, isBlV, rdStrI, rdIntS, dFrz, dFld, insOf_put, dMeth, lstOf_rol, lstOf_put, seqOf_tup, seqOf_rol, seqOf_put, frz_tup, frz_rol, frz_int, frz_bl, frz_non, frz_str, frz_obj, startN, wipeD, List.map_cons, List.map_nil, List.length_cons, List.length_nil, Nat.zero_add, Nat.sub_self, Nat.reduceAdd, Nat.reduceSub, List.replicate_succ, List.replicate_zero, List.cons_append, List.nil_append, List.append_nil, List.getElem?_cons_zero, List.getElem?_cons_succ, List.set_cons_zero, List.set_cons_succ, Option.some.injEq, exists_eq_left', atI_0, atI_1, atI_2, atI_3, atI_4, atI_5, atI_6, atI_7, ixN_50, ixN_51, ixN_52, ixN_53, ixN_54, ixN_30, ixN_31, ixN_32, put_same, put_put, true_and, and_true, decide_true, decide_false, Bool.not_true, Bool.not_false, Bool.false_eq_true, if_true, if_false, decide_eq_true_eq, Bool.not_eq_true', decide_eq_false_iff_not, mem_one, ex_one, and_self, xd_mk, qAdd_i, qAdd_t, qAdd_s, qAdd_l, qMul_i, qMul_t, qMul_l, qSub_i, qDiv_i, qMod_i, qPow_i, qIAdd_i, qEq_i, qEq_b, qEq_s, qCmp_i, qIsN, qSl_t, qSl_l, qSl_s, qInt_i, qInt_b, qInt1, qMax, qMin, qList_t, qList_l, i_Disk, l_Disk, h_Disk_write, h_Disk_sync, h_Disk_blocks, h_Disk_synced, h_Disk_cut, h_Disk_drop, h_Disk_copy, g_Disk_rows, p_Disk_rows, k_Disk_rows, g_Disk_lasting, p_Disk_lasting, k_Disk_lasting]
            refine ⟨slK, ne_tup (n := 2) (cl_two (by decide +kernel) trivial) (by decide) ?_⟩
            obtain ⟨ks2, rfl, hk2, ha2⟩ : ∃ ks2, d = .tup ks2 ∧ ks2.length = (rows.drop l).length ∧ (pairs ks2 ((rows.drop l).map tb)).all fB = true := by
              unfold cutOk at e
              split at e
              · rw [Bool.and_eq_true] at e
                exact ⟨_, rfl, of_decide_eq_true e.1, e.2⟩
              · cases e
            obtain ⟨e1, e2, e3⟩ := cut_is _ _ hk2 ha2
            simp only [dSeq, dAsg, dRet, dRetN, dDrop, dRaise, dBreak, dCont, dPar, dAug, dFor, dNext, dSetF, dAugF, dRaiseF, dIfS, dTest, dOp, dVar, dC, dCB, dCons, dNil, dCall, dAndV, dOrV, dNotV, dAndT, dOrT, dNotT, dIf, dTup, dLst, dLstV, dSl, dSlV, oSome, oNone, dNeg, gN, gT, gConsD, gNilD, gSubD, gFldD, dChain, dLc, dBM, isLst, iSeqD, iR1, iR2, iR3, dYes, isn_non, isn_bl, isn_int, isn_str, isn_ref, isn_tup, isn_rol, isn_obj, rdIx_tup, rdIx_rol, rdIx_put, rdSet, rdLen_tup, rdLen_rol, rdLen_str, rdLen_put, rdAppend, rdExt, rdPopAt, rdIsB, isBlV, rdStrI, rdIntS, dFrz, dFld, insOf_put, dMeth, lstOf_rol, lstOf_put, seqOf_tup, seqOf_rol, seqOf_put, frz_tup, frz_rol, frz_int, frz_bl, frz_non, frz_str, frz_obj, startN, wipeD, List.map_cons, List.map_nil, List.length_cons, List.length_nil, Nat.zero_add, Nat.sub_self, Nat.reduceAdd, Nat.reduceSub, List.replicate_succ, List.replicate_zero, List.cons_append, List.nil_append, List.append_nil, List.getElem?_cons_zero, List.getElem?_cons_succ, List.set_cons_zero, List.set_cons_succ, Option.some.injEq, exists_eq_left', atI_0, atI_1, atI_2, atI_3, atI_4, atI_5, atI_6, atI_7, ixN_50, ixN_51, ixN_52, ixN_53, ixN_54, ixN_30, ixN_31, ixN_32, put_same, put_put, true_and, and_true, decide_true, decide_false, Bool.not_true, Bool.not_false, Bool.false_eq_true, if_true, if_false, decide_eq_true_eq, Bool.not_eq_true', decide_eq_false_iff_not, mem_one, ex_one, and_self, xd_mk, qAdd_i, qAdd_t, qAdd_s, qAdd_l, qMul_i, qMul_t, qMul_l, qSub_i, qDiv_i, qMod_i, qPow_i, qIAdd_i, qEq_i, qEq_b, qEq_s, qCmp_i, qIsN, qSl_t, qSl_l, qSl_s, qInt_i, qInt_b, qInt1, qMax, qMin, qList_t, qList_l, i_Disk, l_Disk, h_Disk_write, h_Disk_sync, h_Disk_blocks, h_Disk_synced, h_Disk_cut, h_Disk_drop, h_Disk_copy, g_Disk_rows, p_Disk_rows, k_Disk_rows, g_Disk_lasting, p_Disk_lasting, k_Disk_lasting, iZipM, slV_ref hL2.bl, cut_drop2]
            refine ⟨_, _, rfl, rfl, ?_⟩
            refine lcV_pure fCut (by rw [VD.pairs_len, List.length_map, List.length_drop, sizeLine_eq]; omega) (fun _ _ _ => ⟨rfl, rfl⟩) (fun z hz T Kq hs hq => ?_) ?_
            · obtain ⟨y, k, hy, hk1, rfl⟩ := pairs_mem hz
              obtain ⟨w, hw1, rfl⟩ := mem_tb hy
              rw [e1] at hk1
              obtain ⟨i, hi, rfl⟩ := List.mem_map.mp hk1
              simp only [dSeq, dAsg, dRet, dRetN, dDrop, dRaise, dBreak, dCont, dPar, dAug, dFor, dNext, dSetF, dAugF, dRaiseF, dIfS, dTest, dOp, dVar, dC, dCB, dCons, dNil, dCall, dAndV, dOrV, dNotV, dAndT, dOrT, dNotT, dIf, dTup, dLst, dLstV, dSl, dSlV, oSome, oNone, dNeg, gN, gT, gConsD, gNilD, gSubD, gFldD, dChain, dLc, dBM, isLst, iSeqD, iR1, iR2, iR3, dYes, isn_non, isn_bl, isn_int, isn_str, isn_ref, isn_tup, isn_rol, isn_obj, rdIx_tup, rdIx_rol, rdIx_put, rdSet, rdLen_tup, rdLen_rol, rdLen_str, rdLen_put, rdAppend, rdExt, rdPopAt, rdIsB, isBlV, rdStrI, rdIntS, dFrz, dFld, insOf_put, dMeth, lstOf_rol, lstOf_put, seqOf_tup, seqOf_rol, seqOf_put, frz_tup, frz_rol, frz_int, frz_bl, frz_non, frz_str, frz_obj, startN, wipeD, List.map_cons, List.map_nil, List.length_cons, List.length_nil, Nat.zero_add, Nat.sub_self, Nat.reduceAdd, Nat.reduceSub, List.replicate_succ, List.replicate_zero, List.cons_append, List.nil_append, List.append_nil, List.getElem?_cons_zero, List.getElem?_cons_succ, List.set_cons_zero, List.set_cons_succ, Option.some.injEq, exists_eq_left', atI_0, atI_1, atI_2, atI_3, atI_4, atI_5, atI_6, atI_7, ixN_50, ixN_51, ixN_52, ixN_53, ixN_54, ixN_30, ixN_31, ixN_32, put_same, put_put, true_and, and_true, decide_true, decide_false, Bool.not_true, Bool.not_false, Bool.false_eq_true, if_true, if_false, decide_eq_true_eq, Bool.not_eq_true', decide_eq_false_iff_not, mem_one, ex_one, and_self, xd_mk, qAdd_i, qAdd_t, qAdd_s, qAdd_l, qMul_i, qMul_t, qMul_l, qSub_i, qDiv_i, qMod_i, qPow_i, qIAdd_i, qEq_i, qEq_b, qEq_s, qCmp_i, qIsN, qSl_t, qSl_l, qSl_s, qInt_i, qInt_b, qInt1, qMax, qMin, qList_t, qList_l, i_Disk, l_Disk, h_Disk_write, h_Disk_sync, h_Disk_blocks, h_Disk_synced, h_Disk_cut, h_Disk_drop, h_Disk_copy, g_Disk_rows, p_Disk_rows, k_Disk_rows, g_Disk_lasting, p_Disk_lasting, k_Disk_lasting]
              exact hq
            rw [e3]
            simp only [dSeq, dAsg, dRet, dRetN, dDrop, dRaise, dBreak, dCont, dPar, dAug, dFor, dNext, dSetF, dAugF, dRaiseF, dIfS, dTest, dOp, dVar, dC, dCB, dCons, dNil, dCall, dAndV, dOrV, dNotV, dAndT, dOrT, dNotT, dIf, dTup, dLst, dLstV, dSl, dSlV, oSome, oNone, dNeg, gN, gT, gConsD, gNilD, gSubD, gFldD, dChain, dLc, dBM, isLst, iSeqD, iR1, iR2, iR3, dYes, isn_non, isn_bl, isn_int, isn_str, isn_ref, isn_tup, isn_rol, isn_obj, rdIx_tup, rdIx_rol, rdIx_put, rdSet, rdLen_tup, rdLen_rol, rdLen_str, rdLen_put, rdAppend, rdExt, rdPopAt, rdIsB, isBlV, rdStrI, rdIntS, dFrz, dFld, insOf_put, dMeth, lstOf_rol, lstOf_put, seqOf_tup, seqOf_rol, seqOf_put, frz_tup, frz_rol, frz_int, frz_bl, frz_non, frz_str, frz_obj, startN, wipeD, List.map_cons, List.map_nil, List.length_cons, List.length_nil, Nat.zero_add, Nat.sub_self, Nat.reduceAdd, Nat.reduceSub, List.replicate_succ, List.replicate_zero, List.cons_append, List.nil_append, List.append_nil, List.getElem?_cons_zero, List.getElem?_cons_succ, List.set_cons_zero, List.set_cons_succ, Option.some.injEq, exists_eq_left', atI_0, atI_1, atI_2, atI_3, atI_4, atI_5, atI_6, atI_7, ixN_50, ixN_51, ixN_52, ixN_53, ixN_54, ixN_30, ixN_31, ixN_32, put_same, put_put, true_and, and_true, decide_true, decide_false, Bool.not_true, Bool.not_false, Bool.false_eq_true, if_true, if_false, decide_eq_true_eq, Bool.not_eq_true', decide_eq_false_iff_not, mem_one, ex_one, and_self, xd_mk, qAdd_i, qAdd_t, qAdd_s, qAdd_l, qMul_i, qMul_t, qMul_l, qSub_i, qDiv_i, qMod_i, qPow_i, qIAdd_i, qEq_i, qEq_b, qEq_s, qCmp_i, qIsN, qSl_t, qSl_l, qSl_s, qInt_i, qInt_b, qInt1, qMax, qMin, qList_t, qList_l, i_Disk, l_Disk, h_Disk_write, h_Disk_sync, h_Disk_blocks, h_Disk_synced, h_Disk_cut, h_Disk_drop, h_Disk_copy, g_Disk_rows, p_Disk_rows, k_Disk_rows, g_Disk_lasting, p_Disk_lasting, k_Disk_lasting, gOpenD, rdSetOpen, hL2.bl]
            have eR : List.map tb (List.take l rows) ++ List.map tb (cutW (rows.drop l) (List.map ivl ks2)) = List.map tb (cutR rows l (.tup ks2)) := by
              unfold cutR
              rw [← List.map_append]
              rfl
            rw [Int.toNat_natCast, ← List.map_take, eR]
            have hcl := cutR_len hL.dk.le e
            refine ⟨⟨by omega, by rw [List.length_map]; have := hL.dk.le; omega, by rw [sizeLine_eq, List.length_map, List.length_map, cutW_len (by rw [List.length_map, hk2]), List.length_drop]; omega⟩, ?_⟩
            rw [List.length_map, hcl]
            exact hN _ _ ⟨r2, cutR rows l (.tup ks2), rows.length, hL2.write _, by omega, _, _, _, _, _, _, _, _, _, _, rfl⟩
          | false =>
            rw [if_neg (by decide)]
            simp only [dSeq, dAsg, dRet, dRetN, dDrop, dRaise, dBreak, dCont, dPar, dAug, dFor, dNext, dSetF, dAugF, dRaiseF, dIfS, dTest, dOp, dVar, dC, dCB, dCons, dNil, dCall, dAndV, dOrV, dNotV, dAndT, dOrT, dNotT, dIf, dTup, dLst, dLstV, dSl, dSlV, oSome, oNone, dNeg, gN, gT, gConsD, gNilD, gSubD, gFldD, dChain, dLc, dBM, isLst, iSeqD, iR1, iR2, iR3, dYes, isn_non, isn_bl, isn_int, isn_str, isn_ref, isn_tup, isn_rol, isn_obj, rdIx_tup, rdIx_rol, rdIx_put, rdSet, rdLen_tup, rdLen_rol, rdLen_str, rdLen_put, rdAppend, rdExt, rdPopAt, rdIsB, isBlV, rdStrI, rdIntS, dFrz, dFld, insOf_put, dMeth, lstOf_rol, lstOf_put, seqOf_tup, seqOf_rol, seqOf_put, frz_tup, frz_rol, frz_int, frz_bl, frz_non, frz_str, frz_obj, startN, wipeD, List.map_cons, List.map_nil, List.length_cons, List.length_nil, Nat.zero_add, Nat.sub_self, Nat.reduceAdd, Nat.reduceSub, List.replicate_succ, List.replicate_zero, List.cons_append, List.nil_append, List.append_nil, List.getElem?_cons_zero, List.getElem?_cons_succ, List.set_cons_zero, List.set_cons_succ, Option.some.injEq, exists_eq_left', atI_0, atI_1, atI_2, atI_3, atI_4, atI_5, atI_6, atI_7, ixN_50, ixN_51, ixN_52, ixN_53, ixN_54, ixN_30, ixN_31, ixN_32, put_same, put_put, true_and, and_true, decide_true, decide_false, Bool.not_true, Bool.not_false, Bool.false_eq_true, if_true, if_false, decide_eq_true_eq, Bool.not_eq_true', decide_eq_false_iff_not, mem_one, ex_one, and_self, xd_mk, qAdd_i, qAdd_t, qAdd_s, qAdd_l, qMul_i, qMul_t, qMul_l, qSub_i, qDiv_i, qMod_i, qPow_i, qIAdd_i, qEq_i, qEq_b, qEq_s, qCmp_i, qIsN, qSl_t, qSl_l, qSl_s, qInt_i, qInt_b, qInt1, qMax, qMin, qList_t, qList_l, i_Disk, l_Disk, h_Disk_write, h_Disk_sync, h_Disk_blocks, h_Disk_synced, h_Disk_cut, h_Disk_drop, h_Disk_copy, g_Disk_rows, p_Disk_rows, k_Disk_rows, g_Disk_lasting, p_Disk_lasting, k_Disk_lasting]
            refine ⟨slK, ne_tup (n := 2) (cl_two (by decide +kernel) trivial) (by decide) ?_⟩
            simp only [dSeq, dAsg, dRet, dRetN, dDrop, dRaise, dBreak, dCont, dPar, dAug, dFor, dNext, dSetF, dAugF, dRaiseF, dIfS, dTest, dOp, dVar, dC, dCB, dCons, dNil, dCall, dAndV, dOrV, dNotV, dAndT, dOrT, dNotT, dIf, dTup, dLst, dLstV, dSl, dSlV, oSome, oNone, dNeg, gN, gT, gConsD, gNilD, gSubD, gFldD, dChain, dLc, dBM, isLst, iSeqD, iR1, iR2, iR3, dYes, isn_non, isn_bl, isn_int, isn_str, isn_ref, isn_tup, isn_rol, isn_obj, rdIx_tup, rdIx_rol, rdIx_put, rdSet, rdLen_tup, rdLen_rol, rdLen_str, rdLen_put, rdAppend, rdExt, rdPopAt, rdIsB, isBlV, rdStrI, rdIntS, dFrz, dFld, insOf_put, dMeth, lstOf_rol, lstOf_put, seqOf_tup, seqOf_rol, seqOf_put, frz_tup, frz_rol, frz_int, frz_bl, frz_non, frz_str, frz_obj, startN, wipeD, List.map_cons, List.map_nil, List.length_cons, List.length_nil, Nat.zero_add, Nat.sub_self, Nat.reduceAdd, Nat.reduceSub, List.replicate_succ, List.replicate_zero, List.cons_append, List.nil_append, List.append_nil, List.getElem?_cons_zero, List.getElem?_cons_succ, List.set_cons_zero, List.set_cons_succ, Option.some.injEq, exists_eq_left', atI_0, atI_1, atI_2, atI_3, atI_4, atI_5, atI_6, atI_7, ixN_50, ixN_51, ixN_52, ixN_53, ixN_54, ixN_30, ixN_31, ixN_32, put_same, put_put, true_and, and_true, decide_true, decide_false, Bool.not_true, Bool.not_false, Bool.false_eq_true, if_true, if_false, decide_eq_true_eq, Bool.not_eq_true', decide_eq_false_iff_not, mem_one, ex_one, and_self, xd_mk, qAdd_i, qAdd_t, qAdd_s, qAdd_l, qMul_i, qMul_t, qMul_l, qSub_i, qDiv_i, qMod_i, qPow_i, qIAdd_i, qEq_i, qEq_b, qEq_s, qCmp_i, qIsN, qSl_t, qSl_l, qSl_s, qInt_i, qInt_b, qInt1, qMax, qMin, qList_t, qList_l, i_Disk, l_Disk, h_Disk_write, h_Disk_sync, h_Disk_blocks, h_Disk_synced, h_Disk_cut, h_Disk_drop, h_Disk_copy, g_Disk_rows, p_Disk_rows, k_Disk_rows, g_Disk_lasting, p_Disk_lasting, k_Disk_lasting]
            exact hN _ _ ⟨r1, rows, l, hL, by omega, _, _, _, _, _, _, _, _, _, _, rfl⟩
        refine ifS_F (fun Q X q => ?_) ?_
        · simp only [dSeq, dAsg, dRet, dRetN, dDrop, dRaise, dBreak, dCont, dPar, dAug, dFor, dNext, dSetF, dAugF, dRaiseF, dIfS, dTest, dOp, dVar, dC, dCB, dCons, dNil, dCall, dAndV, dOrV, dNotV, dAndT, dOrT, dNotT, dIf, dTup, dLst, dLstV, dSl, dSlV, rdSlV, oSome, oNone, dNeg, gN, gT, gConsD, gNilD, gSubD, gFldD, dChain, dLc, dBM, isLst, iSeqD, iR1, iR2, iR3, dYes, rdAddV, rdMulV, rdSub, rdDiv, rdMod, rdPow, rdIAdd, rdCmp, rdIsN, isn_non, isn_bl, isn_int, isn_str, isn_ref, isn_tup, isn_rol, isn_obj, rdEqG, rdIx_tup, rdIx_rol, rdIx_put, rdSet, rdLen_tup, rdLen_rol, rdLen_str, rdLen_put, rdInt1, rdInt, rdInt2, rdAppend, rdExt, rdPopAt, rdMaxL, rdMinL, rdListV, rdIsB, isBlV, rdStrI, rdIntS, dFrz, dFld, insOf_put, dMeth, lstOf_rol, lstOf_put, seqOf_tup, seqOf_rol, seqOf_put, frz_tup, frz_rol, frz_int, frz_bl, frz_non, frz_str, frz_obj, startN, wipeD, List.map_cons, List.map_nil, List.length_cons, List.length_nil, Nat.zero_add, Nat.sub_self, Nat.reduceAdd, Nat.reduceSub, List.replicate_succ, List.replicate_zero, List.cons_append, List.nil_append, List.append_nil, List.getElem?_cons_zero, List.getElem?_cons_succ, List.set_cons_zero, List.set_cons_succ, Option.some.injEq, exists_eq_left', DEnds.xd, atI_0, atI_1, atI_2, atI_3, atI_4, atI_5, atI_6, atI_7, ixN_50, ixN_51, ixN_52, ixN_53, ixN_54, ixN_30, ixN_31, ixN_32, put_same, put_put, true_and, and_true, decide_true, decide_false, Bool.not_true, Bool.not_false, Bool.false_eq_true, if_true, if_false, decide_eq_true_eq, Bool.not_eq_true', decide_eq_false_iff_not, mem_one, ex_one, and_self, i_Disk, l_Disk, h_Disk_write, h_Disk_sync, h_Disk_blocks, h_Disk_synced, h_Disk_cut, h_Disk_drop, h_Disk_copy, g_Disk_rows, p_Disk_rows, k_Disk_rows, g_Disk_lasting, p_Disk_lasting, k_Disk_lasting, nm, decide_eq_false h5]
          exact q
        by_cases h6 : k = 5
        · subst h6
          refine ifS_T (fun Q X q => ?_) ?_
          · simp only [dSeq, dAsg, dRet, dRetN, dDrop, dRaise, dBreak, dCont, dPar, dAug, dFor, dNext, dSetF, dAugF, dRaiseF, dIfS, dTest, dOp, dVar, dC, dCB, dCons, dNil, dCall, dAndV, dOrV, dNotV, dAndT, dOrT, dNotT, dIf, dTup, dLst, dLstV, dSl, dSlV, rdSlV, oSome, oNone, dNeg, gN, gT, gConsD, gNilD, gSubD, gFldD, dChain, dLc, dBM, isLst, iSeqD, iR1, iR2, iR3, dYes, rdAddV, rdMulV, rdSub, rdDiv, rdMod, rdPow, rdIAdd, rdCmp, rdIsN, isn_non, isn_bl, isn_int, isn_str, isn_ref, isn_tup, isn_rol, isn_obj, rdEqG, rdIx_tup, rdIx_rol, rdIx_put, rdSet, rdLen_tup, rdLen_rol, rdLen_str, rdLen_put, rdInt1, rdInt, rdInt2, rdAppend, rdExt, rdPopAt, rdMaxL, rdMinL, rdListV, rdIsB, isBlV, rdStrI, rdIntS, dFrz, dFld, insOf_put, dMeth, lstOf_rol, lstOf_put, seqOf_tup, seqOf_rol, seqOf_put, frz_tup, frz_rol, frz_int, frz_bl, frz_non, frz_str, frz_obj, startN, wipeD, List.map_cons, List.map_nil, List.length_cons, List.length_nil, Nat.zero_add, Nat.sub_self, Nat.reduceAdd, Nat.reduceSub, List.replicate_succ, List.replicate_zero, List.cons_append, List.nil_append, List.append_nil, List.getElem?_cons_zero, List.getElem?_cons_succ, List.set_cons_zero, List.set_cons_succ, Option.some.injEq, exists_eq_left', DEnds.xd, atI_0, atI_1, atI_2, atI_3, atI_4, atI_5, atI_6, atI_7, ixN_50, ixN_51, ixN_52, ixN_53, ixN_54, ixN_30, ixN_31, ixN_32, put_same, put_put, true_and, and_true, decide_true, decide_false, Bool.not_true, Bool.not_false, Bool.false_eq_true, if_true, if_false, decide_eq_true_eq, Bool.not_eq_true', decide_eq_false_iff_not, mem_one, ex_one, and_self, i_Disk, l_Disk, h_Disk_write, h_Disk_sync, h_Disk_blocks, h_Disk_synced, h_Disk_cut, h_Disk_drop, h_Disk_copy, g_Disk_rows, p_Disk_rows, k_Disk_rows, g_Disk_lasting, p_Disk_lasting, k_Disk_lasting, nm]
            exact q
          have hle := hL.dk.le
          have eb : (List.map tb rows).length = rows.length := List.length_map ..
          refine cut_seq (fun ρ T => Led A S T a c x r b r1 rows rows l ∧ ∃ d, isPl d = true ∧ isTup d = false ∧ ρ = nm a x b l n [y5, some (.int 5), y7, y8, y9, y10, some d, y12, y13, y14]) (fun N hN => ?_) fun ρ T hM => ?_
          · simp only [dSeq, dAsg, dRet, dRetN, dDrop, dRaise, dBreak, dCont, dPar, dAug, dFor, dNext, dSetF, dAugF, dRaiseF, dIfS, dTest, dOp, dVar, dC, dCB, dCons, dNil, dCall, dAndV, dOrV, dNotV, dAndT, dOrT, dNotT, dIf, dTup, dLst, dLstV, dSl, dSlV, oSome, oNone, dNeg, gN, gT, gConsD, gNilD, gSubD, gFldD, dChain, dLc, dBM, isLst, iSeqD, iR1, iR2, iR3, dYes, isn_non, isn_bl, isn_int, isn_str, isn_ref, isn_tup, isn_rol, isn_obj, rdIx_tup, rdIx_rol, rdIx_put, rdSet, rdLen_tup, rdLen_rol, rdLen_str, rdLen_put, rdAppend, rdExt, rdPopAt, rdIsB, isBlV, rdStrI, rdIntS, dFrz, dFld, insOf_put, dMeth, lstOf_rol, lstOf_put, seqOf_tup, seqOf_rol, seqOf_put, frz_tup, frz_rol, frz_int, frz_bl, frz_non, frz_str, frz_obj, startN, wipeD, List.map_cons, List.map_nil, List.length_cons, List.length_nil, Nat.zero_add, Nat.sub_self, Nat.reduceAdd, Nat.reduceSub, List.replicate_succ, List.replicate_zero, List.cons_append, List.nil_append, List.append_nil, List.getElem?_cons_zero, List.getElem?_cons_succ, List.set_cons_zero, List.set_cons_succ, Option.some.injEq, exists_eq_left', atI_0, atI_1, atI_2, atI_3, atI_4, atI_5, atI_6, atI_7, ixN_50, ixN_51, ixN_52, ixN_53, ixN_54, ixN_30, ixN_31, ixN_32, put_same, put_put, true_and, and_true, decide_true, decide_false, Bool.not_true, Bool.not_false, Bool.false_eq_true, if_true, if_false, decide_eq_true_eq, Bool.not_eq_true', decide_eq_false_iff_not, mem_one, ex_one, and_self, xd_mk, qAdd_i, qAdd_t, qAdd_s, qAdd_l, qMul_i, qMul_t, qMul_l, qSub_i, qDiv_i, qMod_i, qPow_i, qIAdd_i, qEq_i, qEq_b, qEq_s, qCmp_i, qIsN, qSl_t, qSl_l, qSl_s, qInt_i, qInt_b, qInt1, qMax, qMin, qList_t, qList_l, i_Disk, l_Disk, h_Disk_write, h_Disk_sync, h_Disk_blocks, h_Disk_synced, h_Disk_cut, h_Disk_drop, h_Disk_copy, g_Disk_rows, p_Disk_rows, k_Disk_rows, g_Disk_lasting, p_Disk_lasting, k_Disk_lasting, nm, rdLen_ref hL.bl, eb]
            refine ask hL.hd (fun m T1 h1 a1 b1 => ?_) (by omega) (by omega)
            have hL1 := hL.draw h1
            simp only [dSeq, dAsg, dRet, dRetN, dDrop, dRaise, dBreak, dCont, dPar, dAug, dFor, dNext, dSetF, dAugF, dRaiseF, dIfS, dTest, dOp, dVar, dC, dCB, dCons, dNil, dCall, dAndV, dOrV, dNotV, dAndT, dOrT, dNotT, dIf, dTup, dLst, dLstV, dSl, dSlV, oSome, oNone, dNeg, gN, gT, gConsD, gNilD, gSubD, gFldD, dChain, dLc, dBM, isLst, iSeqD, iR1, iR2, iR3, dYes, isn_non, isn_bl, isn_int, isn_str, isn_ref, isn_tup, isn_rol, isn_obj, rdIx_tup, rdIx_rol, rdIx_put, rdSet, rdLen_tup, rdLen_rol, rdLen_str, rdLen_put, rdAppend, rdExt, rdPopAt, rdIsB, isBlV, rdStrI, rdIntS, dFrz, dFld, insOf_put, dMeth, lstOf_rol, lstOf_put, seqOf_tup, seqOf_rol, seqOf_put, frz_tup, frz_rol, frz_int, frz_bl, frz_non, frz_str, frz_obj, startN, wipeD, List.map_cons, List.map_nil, List.length_cons, List.length_nil, Nat.zero_add, Nat.sub_self, Nat.reduceAdd, Nat.reduceSub, List.replicate_succ, List.replicate_zero, List.cons_append, List.nil_append, List.append_nil, List.getElem?_cons_zero, List.getElem?_cons_succ, List.set_cons_zero, List.set_cons_succ, Option.some.injEq, exists_eq_left', atI_0, atI_1, atI_2, atI_3, atI_4, atI_5, atI_6, atI_7, ixN_50, ixN_51, ixN_52, ixN_53, ixN_54, ixN_30, ixN_31, ixN_32, put_same, put_put, true_and, and_true, decide_true, decide_false, Bool.not_true, Bool.not_false, Bool.false_eq_true, if_true, if_false, decide_eq_true_eq, Bool.not_eq_true', decide_eq_false_iff_not, mem_one, ex_one, and_self, xd_mk, qAdd_i, qAdd_t, qAdd_s, qAdd_l, qMul_i, qMul_t, qMul_l, qSub_i, qDiv_i, qMod_i, qPow_i, qIAdd_i, qEq_i, qEq_b, qEq_s, qCmp_i, qIsN, qSl_t, qSl_l, qSl_s, qInt_i, qInt_b, qInt1, qMax, qMin, qList_t, qList_l, i_Disk, l_Disk, h_Disk_write, h_Disk_sync, h_Disk_blocks, h_Disk_synced, h_Disk_cut, h_Disk_drop, h_Disk_copy, g_Disk_rows, p_Disk_rows, k_Disk_rows, g_Disk_lasting, p_Disk_lasting, k_Disk_lasting, rdLen_ref hL1.bl, eb]
            refine ⟨slK, ask_mem h1 fun d T2 h2 hm => ?_⟩
            refine hN _ _ ⟨hL.draw h2, d, ?_, ?_, rfl⟩
            · simp only [List.mem_cons, List.not_mem_nil, or_false] at hm
              rcases hm with rfl | rfl | rfl | rfl | rfl | rfl | rfl <;> rfl
            · simp only [List.mem_cons, List.not_mem_nil, or_false] at hm
              rcases hm with rfl | rfl | rfl | rfl | rfl | rfl | rfl <;> rfl
          clear hL
          obtain ⟨hL, d, hp, ht, rfl⟩ := hM
          have kd : knownL A T d := (Tame.pl (A := A) (S := T) (n := 0) hp ht).1 T (Sub.refl T)
          obtain ⟨dx, ho⟩ := hL.dk.obj
          refine cut_seq (fun ρ U => U = T ∧ ρ = nm a x b l n [y5, some (.int 5), y7, y8, some (.bl (within d 0 (rows.length : Nat))), y10, some d, y12, y13, y14]) (fun N hN => ?_) fun ρ T2 hM => ?_
          · simp only [dSeq, dAsg, dRet, dRetN, dDrop, dRaise, dBreak, dCont, dPar, dAug, dFor, dNext, dSetF, dAugF, dRaiseF, dIfS, dTest, dOp, dVar, dC, dCB, dCons, dNil, dCall, dAndV, dOrV, dNotV, dAndT, dOrT, dNotT, dIf, dTup, dLst, dLstV, dSl, dSlV, oSome, oNone, dNeg, gN, gT, gConsD, gNilD, gSubD, gFldD, dChain, dLc, dBM, isLst, iSeqD, iR1, iR2, iR3, dYes, isn_non, isn_bl, isn_int, isn_str, isn_ref, isn_tup, isn_rol, isn_obj, rdIx_tup, rdIx_rol, rdIx_put, rdSet, rdLen_tup, rdLen_rol, rdLen_str, rdLen_put, rdAppend, rdExt, rdPopAt, rdIsB, isBlV, rdStrI, rdIntS, dFrz, dFld, insOf_put, dMeth, lstOf_rol, lstOf_put, seqOf_tup, seqOf_rol, seqOf_put, frz_tup, frz_rol, frz_int, frz_bl, frz_non, frz_str, frz_obj, startN, wipeD, List.map_cons, List.map_nil, List.length_cons, List.length_nil, Nat.zero_add, Nat.sub_self, Nat.reduceAdd, Nat.reduceSub, List.replicate_succ, List.replicate_zero, List.cons_append, List.nil_append, List.append_nil, List.getElem?_cons_zero, List.getElem?_cons_succ, List.set_cons_zero, List.set_cons_succ, Option.some.injEq, exists_eq_left', atI_0, atI_1, atI_2, atI_3, atI_4, atI_5, atI_6, atI_7, ixN_50, ixN_51, ixN_52, ixN_53, ixN_54, ixN_30, ixN_31, ixN_32, put_same, put_put, true_and, and_true, decide_true, decide_false, Bool.not_true, Bool.not_false, Bool.false_eq_true, if_true, if_false, decide_eq_true_eq, Bool.not_eq_true', decide_eq_false_iff_not, mem_one, ex_one, and_self, xd_mk, qAdd_i, qAdd_t, qAdd_s, qAdd_l, qMul_i, qMul_t, qMul_l, qSub_i, qDiv_i, qMod_i, qPow_i, qIAdd_i, qEq_i, qEq_b, qEq_s, qCmp_i, qIsN, qSl_t, qSl_l, qSl_s, qInt_i, qInt_b, qInt1, qMax, qMin, qList_t, qList_l, i_Disk, l_Disk, h_Disk_write, h_Disk_sync, h_Disk_blocks, h_Disk_synced, h_Disk_cut, h_Disk_drop, h_Disk_copy, g_Disk_rows, p_Disk_rows, k_Disk_rows, g_Disk_lasting, p_Disk_lasting, k_Disk_lasting, nm]
            refine isi_int kd.1 ?_
            cases d with
            | int i =>
              simp only [dSeq, dAsg, dRet, dRetN, dDrop, dRaise, dBreak, dCont, dPar, dAug, dFor, dNext, dSetF, dAugF, dRaiseF, dIfS, dTest, dOp, dVar, dC, dCB, dCons, dNil, dCall, dAndV, dOrV, dNotV, dAndT, dOrT, dNotT, dIf, dTup, dLst, dLstV, dSl, dSlV, oSome, oNone, dNeg, gN, gT, gConsD, gNilD, gSubD, gFldD, dChain, dLc, dBM, isLst, iSeqD, iR1, iR2, iR3, dYes, isn_non, isn_bl, isn_int, isn_str, isn_ref, isn_tup, isn_rol, isn_obj, rdIx_tup, rdIx_rol, rdIx_put, rdSet, rdLen_tup, rdLen_rol, rdLen_str, rdLen_put, rdAppend, rdExt, rdPopAt, rdIsB, isBlV, rdStrI, rdIntS, dFrz, dFld, insOf_put, dMeth, lstOf_rol, lstOf_put, seqOf_tup, seqOf_rol, seqOf_put, frz_tup, frz_rol, frz_int, frz_bl, frz_non, frz_str, frz_obj, startN, wipeD, List.map_cons, List.map_nil, List.length_cons, List.length_nil, Nat.zero_add, Nat.sub_self, Nat.reduceAdd, Nat.reduceSub, List.replicate_succ, List.replicate_zero, List.cons_append, List.nil_append, List.append_nil, List.getElem?_cons_zero, List.getElem?_cons_succ, List.set_cons_zero, List.set_cons_succ, Option.some.injEq, exists_eq_left', atI_0, atI_1, atI_2, atI_3, atI_4, atI_5, atI_6, atI_7, ixN_50, ixN_51, ixN_52, ixN_53, ixN_54, ixN_30, ixN_31, ixN_32, put_same, put_put, true_and, and_true, decide_true, decide_false, Bool.not_true, Bool.not_false, Bool.false_eq_true, if_true, if_false, decide_eq_true_eq, Bool.not_eq_true', decide_eq_false_iff_not, mem_one, ex_one, and_self, xd_mk, qAdd_i, qAdd_t, qAdd_s, qAdd_l, qMul_i, qMul_t, qMul_l, qSub_i, qDiv_i, qMod_i, qPow_i, qIAdd_i, qEq_i, qEq_b, qEq_s, qCmp_i, qIsN, qSl_t, qSl_l, qSl_s, qInt_i, qInt_b, qInt1, qMax, qMin, qList_t, qList_l, i_Disk, l_Disk, h_Disk_write, h_Disk_sync, h_Disk_blocks, h_Disk_synced, h_Disk_cut, h_Disk_drop, h_Disk_copy, g_Disk_rows, p_Disk_rows, k_Disk_rows, g_Disk_lasting, p_Disk_lasting, k_Disk_lasting, isInt, isBl, Bool.or_false]
              refine isi_bool kd.1 ?_
              simp only [dSeq, dAsg, dRet, dRetN, dDrop, dRaise, dBreak, dCont, dPar, dAug, dFor, dNext, dSetF, dAugF, dRaiseF, dIfS, dTest, dOp, dVar, dC, dCB, dCons, dNil, dCall, dAndV, dOrV, dNotV, dAndT, dOrT, dNotT, dIf, dTup, dLst, dLstV, dSl, dSlV, oSome, oNone, dNeg, gN, gT, gConsD, gNilD, gSubD, gFldD, dChain, dLc, dBM, isLst, iSeqD, iR1, iR2, iR3, dYes, isn_non, isn_bl, isn_int, isn_str, isn_ref, isn_tup, isn_rol, isn_obj, rdIx_tup, rdIx_rol, rdIx_put, rdSet, rdLen_tup, rdLen_rol, rdLen_str, rdLen_put, rdAppend, rdExt, rdPopAt, rdIsB, isBlV, rdStrI, rdIntS, dFrz, dFld, insOf_put, dMeth, lstOf_rol, lstOf_put, seqOf_tup, seqOf_rol, seqOf_put, frz_tup, frz_rol, frz_int, frz_bl, frz_non, frz_str, frz_obj, startN, wipeD, List.map_cons, List.map_nil, List.length_cons, List.length_nil, Nat.zero_add, Nat.sub_self, Nat.reduceAdd, Nat.reduceSub, List.replicate_succ, List.replicate_zero, List.cons_append, List.nil_append, List.append_nil, List.getElem?_cons_zero, List.getElem?_cons_succ, List.set_cons_zero, List.set_cons_succ, Option.some.injEq, exists_eq_left', atI_0, atI_1, atI_2, atI_3, atI_4, atI_5, atI_6, atI_7, ixN_50, ixN_51, ixN_52, ixN_53, ixN_54, ixN_30, ixN_31, ixN_32, put_same, put_put, true_and, and_true, decide_true, decide_false, Bool.not_true, Bool.not_false, Bool.false_eq_true, if_true, if_false, decide_eq_true_eq, Bool.not_eq_true', decide_eq_false_iff_not, mem_one, ex_one, and_self, xd_mk, qAdd_i, qAdd_t, qAdd_s, qAdd_l, qMul_i, qMul_t, qMul_l, qSub_i, qDiv_i, qMod_i, qPow_i, qIAdd_i, qEq_i, qEq_b, qEq_s, qCmp_i, qIsN, qSl_t, qSl_l, qSl_s, qInt_i, qInt_b, qInt1, qMax, qMin, qList_t, qList_l, i_Disk, l_Disk, h_Disk_write, h_Disk_sync, h_Disk_blocks, h_Disk_synced, h_Disk_cut, h_Disk_drop, h_Disk_copy, g_Disk_rows, p_Disk_rows, k_Disk_rows, g_Disk_lasting, p_Disk_lasting, k_Disk_lasting, isBl, rdLen_ref hL.bl, eb]
              have ei : within (.int i) 0 (rows.length : Nat) = (decide (0 ≤ i) && decide (i ≤ (rows.length : Nat))) := rfl
              by_cases h1 : 0 ≤ i
              · rw [decide_eq_true h1]
                refine hN _ _ ⟨rfl, ?_⟩
                rw [ei, decide_eq_true h1, Bool.true_and]
                rfl
              · rw [decide_eq_false h1]
                refine hN _ _ ⟨rfl, ?_⟩
                rw [ei, decide_eq_false h1, Bool.false_and]
                rfl
            | bl v =>
              simp only [dSeq, dAsg, dRet, dRetN, dDrop, dRaise, dBreak, dCont, dPar, dAug, dFor, dNext, dSetF, dAugF, dRaiseF, dIfS, dTest, dOp, dVar, dC, dCB, dCons, dNil, dCall, dAndV, dOrV, dNotV, dAndT, dOrT, dNotT, dIf, dTup, dLst, dLstV, dSl, dSlV, oSome, oNone, dNeg, gN, gT, gConsD, gNilD, gSubD, gFldD, dChain, dLc, dBM, isLst, iSeqD, iR1, iR2, iR3, dYes, isn_non, isn_bl, isn_int, isn_str, isn_ref, isn_tup, isn_rol, isn_obj, rdIx_tup, rdIx_rol, rdIx_put, rdSet, rdLen_tup, rdLen_rol, rdLen_str, rdLen_put, rdAppend, rdExt, rdPopAt, rdIsB, isBlV, rdStrI, rdIntS, dFrz, dFld, insOf_put, dMeth, lstOf_rol, lstOf_put, seqOf_tup, seqOf_rol, seqOf_put, frz_tup, frz_rol, frz_int, frz_bl, frz_non, frz_str, frz_obj, startN, wipeD, List.map_cons, List.map_nil, List.length_cons, List.length_nil, Nat.zero_add, Nat.sub_self, Nat.reduceAdd, Nat.reduceSub, List.replicate_succ, List.replicate_zero, List.cons_append, List.nil_append, List.append_nil, List.getElem?_cons_zero, List.getElem?_cons_succ, List.set_cons_zero, List.set_cons_succ, Option.some.injEq, exists_eq_left', atI_0, atI_1, atI_2, atI_3, atI_4, atI_5, atI_6, atI_7, ixN_50, ixN_51, ixN_52, ixN_53, ixN_54, ixN_30, ixN_31, ixN_32, put_same, put_put, true_and, and_true, decide_true, decide_false, Bool.not_true, Bool.not_false, Bool.false_eq_true, if_true, if_false, decide_eq_true_eq, Bool.not_eq_true', decide_eq_false_iff_not, mem_one, ex_one, and_self, xd_mk, qAdd_i, qAdd_t, qAdd_s, qAdd_l, qMul_i, qMul_t, qMul_l, qSub_i, qDiv_i, qMod_i, qPow_i, qIAdd_i, qEq_i, qEq_b, qEq_s, qCmp_i, qIsN, qSl_t, qSl_l, qSl_s, qInt_i, qInt_b, qInt1, qMax, qMin, qList_t, qList_l, i_Disk, l_Disk, h_Disk_write, h_Disk_sync, h_Disk_blocks, h_Disk_synced, h_Disk_cut, h_Disk_drop, h_Disk_copy, g_Disk_rows, p_Disk_rows, k_Disk_rows, g_Disk_lasting, p_Disk_lasting, k_Disk_lasting, isInt, isBl, Bool.or_true]
              refine isi_bool kd.1 ?_
              simp only [dSeq, dAsg, dRet, dRetN, dDrop, dRaise, dBreak, dCont, dPar, dAug, dFor, dNext, dSetF, dAugF, dRaiseF, dIfS, dTest, dOp, dVar, dC, dCB, dCons, dNil, dCall, dAndV, dOrV, dNotV, dAndT, dOrT, dNotT, dIf, dTup, dLst, dLstV, dSl, dSlV, oSome, oNone, dNeg, gN, gT, gConsD, gNilD, gSubD, gFldD, dChain, dLc, dBM, isLst, iSeqD, iR1, iR2, iR3, dYes, isn_non, isn_bl, isn_int, isn_str, isn_ref, isn_tup, isn_rol, isn_obj, rdIx_tup, rdIx_rol, rdIx_put, rdSet, rdLen_tup, rdLen_rol, rdLen_str, rdLen_put, rdAppend, rdExt, rdPopAt, rdIsB, isBlV, rdStrI, rdIntS, dFrz, dFld, insOf_put, dMeth, lstOf_rol, lstOf_put, seqOf_tup, seqOf_rol, seqOf_put, frz_tup, frz_rol, frz_int, frz_bl, frz_non, frz_str, frz_obj, startN, wipeD, List.map_cons, List.map_nil, List.length_cons, List.length_nil, Nat.zero_add, Nat.sub_self, Nat.reduceAdd, Nat.reduceSub, List.replicate_succ, List.replicate_zero, List.cons_append, List.nil_append, List.append_nil, List.getElem?_cons_zero, List.getElem?_cons_succ, List.set_cons_zero, List.set_cons_succ, Option.some.injEq, exists_eq_left', atI_0, atI_1, atI_2, atI_3, atI_4, atI_5, atI_6, atI_7, ixN_50, ixN_51, ixN_52, ixN_53, ixN_54, ixN_30, ixN_31, ixN_32, put_same, put_put, true_and, and_true, decide_true, decide_false, Bool.not_true, Bool.not_false, Bool.false_eq_true, if_true, if_false, decide_eq_true_eq, Bool.not_eq_true', decide_eq_false_iff_not, mem_one, ex_one, and_self, xd_mk, qAdd_i, qAdd_t, qAdd_s, qAdd_l, qMul_i, qMul_t, qMul_l, qSub_i, qDiv_i, qMod_i, qPow_i, qIAdd_i, qEq_i, qEq_b, qEq_s, qCmp_i, qIsN, qSl_t, qSl_l, qSl_s, qInt_i, qInt_b, qInt1, qMax, qMin, qList_t, qList_l, i_Disk, l_Disk, h_Disk_write, h_Disk_sync, h_Disk_blocks, h_Disk_synced, h_Disk_cut, h_Disk_drop, h_Disk_copy, g_Disk_rows, p_Disk_rows, k_Disk_rows, g_Disk_lasting, p_Disk_lasting, k_Disk_lasting, isBl]
              exact hN _ _ ⟨rfl, rfl⟩
            | _ =>
              simp only [dSeq, dAsg, dRet, dRetN, dDrop, dRaise, dBreak, dCont, dPar, dAug, dFor, dNext, dSetF, dAugF, dRaiseF, dIfS, dTest, dOp, dVar, dC, dCB, dCons, dNil, dCall, dAndV, dOrV, dNotV, dAndT, dOrT, dNotT, dIf, dTup, dLst, dLstV, dSl, dSlV, oSome, oNone, dNeg, gN, gT, gConsD, gNilD, gSubD, gFldD, dChain, dLc, dBM, isLst, iSeqD, iR1, iR2, iR3, dYes, isn_non, isn_bl, isn_int, isn_str, isn_ref, isn_tup, isn_rol, isn_obj, rdIx_tup, rdIx_rol, rdIx_put, rdSet, rdLen_tup, rdLen_rol, rdLen_str, rdLen_put, rdAppend, rdExt, rdPopAt, rdIsB, isBlV, rdStrI, rdIntS, dFrz, dFld, insOf_put, dMeth, lstOf_rol, lstOf_put, seqOf_tup, seqOf_rol, seqOf_put, frz_tup, frz_rol, frz_int, frz_bl, frz_non, frz_str, frz_obj, startN, wipeD, List.map_cons, List.map_nil, List.length_cons, List.length_nil, Nat.zero_add, Nat.sub_self, Nat.reduceAdd, Nat.reduceSub, List.replicate_succ, List.replicate_zero, List.cons_append, List.nil_append, List.append_nil, List.getElem?_cons_zero, List.getElem?_cons_succ, List.set_cons_zero, List.set_cons_succ, Option.some.injEq, exists_eq_left', atI_0, atI_1, atI_2, atI_3, atI_4, atI_5, atI_6, atI_7, ixN_50, ixN_51, ixN_52, ixN_53, ixN_54, ixN_30, ixN_31, ixN_32, put_same, put_put, true_and, and_true, decide_true, decide_false, Bool.not_true, Bool.not_false, Bool.false_eq_true, if_true, if_false, decide_eq_true_eq, Bool.not_eq_true', decide_eq_false_iff_not, mem_one, ex_one, and_self, xd_mk, qAdd_i, qAdd_t, qAdd_s, qAdd_l, qMul_i, qMul_t, qMul_l, qSub_i, qDiv_i, qMod_i, qPow_i, qIAdd_i, qEq_i, qEq_b, qEq_s, qCmp_i, qIsN, qSl_t, qSl_l, qSl_s, qInt_i, qInt_b, qInt1, qMax, qMin, qList_t, qList_l, i_Disk, l_Disk, h_Disk_write, h_Disk_sync, h_Disk_blocks, h_Disk_synced, h_Disk_cut, h_Disk_drop, h_Disk_copy, g_Disk_rows, p_Disk_rows, k_Disk_rows, g_Disk_lasting, p_Disk_lasting, k_Disk_lasting, isInt, isBl, Bool.or_false]
              exact hN _ _ ⟨rfl, rfl⟩
          obtain ⟨rfl, rfl⟩ := hM
          simp only [dSeq, dAsg, dRet, dRetN, dDrop, dRaise, dBreak, dCont, dPar, dAug, dFor, dNext, dSetF, dAugF, dRaiseF, dIfS, dTest, dOp, dVar, dC, dCB, dCons, dNil, dCall, dAndV, dOrV, dNotV, dAndT, dOrT, dNotT, dIf, dTup, dLst, dLstV, dSl, dSlV, oSome, oNone, dNeg, gN, gT, gConsD, gNilD, gSubD, gFldD, dChain, dLc, dBM, isLst, iSeqD, iR1, iR2, iR3, dYes, isn_non, isn_bl, isn_int, isn_str, isn_ref, isn_tup, isn_rol, isn_obj, rdIx_tup, rdIx_rol, rdIx_put, rdSet, rdLen_tup, rdLen_rol, rdLen_str, rdLen_put, rdAppend, rdExt, rdPopAt, rdIsB, isBlV, rdStrI, rdIntS, dFrz, dFld, insOf_put, dMeth, lstOf_rol, lstOf_put, seqOf_tup, seqOf_rol, seqOf_put, frz_tup, frz_rol, frz_int, frz_bl, frz_non, frz_str, frz_obj, startN, wipeD, List.map_cons, List.map_nil, List.length_cons, List.length_nil, Nat.zero_add, Nat.sub_self, Nat.reduceAdd, Nat.reduceSub, List.replicate_succ, List.replicate_zero, List.cons_append, List.nil_append, List.append_nil, List.getElem?_cons_zero, List.getElem?_cons_succ, List.set_cons_zero, List.set_cons_succ, Option.some.injEq, exists_eq_left', atI_0, atI_1, atI_2, atI_3, atI_4, atI_5, atI_6, atI_7, ixN_50, ixN_51, ixN_52, ixN_53, ixN_54, ixN_30, ixN_31, ixN_32, put_same, put_put, true_and, and_true, decide_true, decide_false, Bool.not_true, Bool.not_false, Bool.false_eq_true, if_true, if_false, decide_eq_true_eq, Bool.not_eq_true', decide_eq_false_iff_not, mem_one, ex_one, and_self, xd_mk, qAdd_i, qAdd_t, qAdd_s, qAdd_l, qMul_i, qMul_t, qMul_l, qSub_i, qDiv_i, qMod_i, qPow_i, qIAdd_i, qEq_i, qEq_b, qEq_s, qCmp_i, qIsN, qSl_t, qSl_l, qSl_s, qInt_i, qInt_b, qInt1, qMax, qMin, qList_t, qList_l, i_Disk, l_Disk, h_Disk_write, h_Disk_sync, h_Disk_blocks, h_Disk_synced, h_Disk_cut, h_Disk_drop, h_Disk_copy, g_Disk_rows, p_Disk_rows, k_Disk_rows, g_Disk_lasting, p_Disk_lasting, k_Disk_lasting, nm]
          refine ⟨x, r1, rows, l, 2, d, rfl, hL.dk, kd, by omega, .inr (.inr ⟨rfl, ?_⟩)⟩
          cases e : within d 0 (rows.length : Nat) with
          | true =>
            rw [if_pos rfl]
            obtain ⟨i, rfl, i0, i1⟩ := within_i.mp e
            obtain ⟨m, rfl⟩ := Int.eq_ofNat_of_zero_le i0
            intro T3 r2 hm
            have en : (ivl (Dv.int (m : Int))).toNat = m := Int.toNat_natCast m
            rw [en] at hm
            have hL2 := hL.move hm fun w hw => hL.ok w (List.mem_of_mem_take hw)
            simp only [dSeq, dAsg, dRet, dRetN, dDrop, dRaise, dBreak, dCont, dPar, dAug, dFor, dNext, dSetF, dAugF, dRaiseF, dIfS, dTest, dOp, dVar, dC, dCB, dCons, dNil, dCall, dAndV, dOrV, dNotV, dAndT, dOrT, dNotT, dIf, dTup, dLst, dLstV, dSl, dSlV, oSome, oNone, dNeg, gN, gT, gConsD, gNilD, gSubD, gFldD, dChain, dLc, dBM, isLst, iSeqD, iR1, iR2, iR3, dYes, isn_non, isn_bl, isn_int, isn_str, isn_ref, isn_tup, isn_rol, isn_obj, rdIx_tup, rdIx_rol, rdIx_put, rdSet, rdLen_tup, rdLen_rol, rdLen_str, rdLen_put, rdAppend, rdExt, rdPopAt, rdIsB, isBlV, rdStrI, rdIntS, dFrz, dFld, insOf_put, dMeth, lstOf_rol, lstOf_put, seqOf_tup, seqOf_rol, seqOf_put, frz_tup, frz_rol, frz_int, frz_bl, frz_non, frz_str, frz_obj, startN, wipeD, List.map_cons, List.map_nil, List.length_cons, List.length_nil, Nat.zero_add, Nat.sub_self, Nat.reduceAdd, Nat.reduceSub, List.replicate_succ, List.replicate_zero, List.cons_append, List.nil_append, List.append_nil, List.getElem?_cons_zero, List.getElem?_cons_succ, List.set_cons_zero, List.set_cons_succ, Option.some.injEq, exists_eq_left', atI_0, atI_1, atI_2, atI_3, atI_4, atI_5, atI_6, atI_7, ixN_50, ixN_51, ixN_52, ixN_53, ixN_54, ixN_30, ixN_31, ixN_32, put_same, put_put, true_and, and_true, decide_true, decide_false, Bool.not_true, Bool.not_false, Bool.false_eq_true, if_true, if_false, decide_eq_true_eq, Bool.not_eq_true', decide_eq_false_iff_not, mem_one, ex_one, and_self, xd_mk, qAdd_i, qAdd_t, qAdd_s, qAdd_l, qMul_i, qMul_t, qMul_l, qSub_i, qDiv_i, qMod_i, qPow_i, qIAdd_i, qEq_i, qEq_b, qEq_s, qCmp_i, qIsN, qSl_t, qSl_l, qSl_s, qInt_i, qInt_b, qInt1, qMax, qMin, qList_t, qList_l, i_Disk, l_Disk, h_Disk_write, h_Disk_sync, h_Disk_blocks, h_Disk_synced, h_Disk_cut, h_Disk_drop, h_Disk_copy, g_Disk_rows, p_Disk_rows, k_Disk_rows, g_Disk_lasting, p_Disk_lasting, k_Disk_lasting]
            refine ⟨slK, ne_tup (n := 2) (cl_two (by decide +kernel) trivial) (by decide) ?_⟩
            simp only [dSeq, dAsg, dRet, dRetN, dDrop, dRaise, dBreak, dCont, dPar, dAug, dFor, dNext, dSetF, dAugF, dRaiseF, dIfS, dTest, dOp, dVar, dC, dCB, dCons, dNil, dCall, dAndV, dOrV, dNotV, dAndT, dOrT, dNotT, dIf, dTup, dLst, dLstV, dSl, dSlV, oSome, oNone, dNeg, gN, gT, gConsD, gNilD, gSubD, gFldD, dChain, dLc, dBM, isLst, iSeqD, iR1, iR2, iR3, dYes, isn_non, isn_bl, isn_int, isn_str, isn_ref, isn_tup, isn_rol, isn_obj, rdIx_tup, rdIx_rol, rdIx_put, rdSet, rdLen_tup, rdLen_rol, rdLen_str, rdLen_put, rdAppend, rdExt, rdPopAt, rdIsB, isBlV, rdStrI, rdIntS, dFrz, dFld, insOf_put, dMeth, lstOf_rol, lstOf_put, seqOf_tup, seqOf_rol, seqOf_put, frz_tup, frz_rol, frz_int, frz_bl, frz_non, frz_str, frz_obj, startN, wipeD, List.map_cons, List.map_nil, List.length_cons, List.length_nil, Nat.zero_add, Nat.sub_self, Nat.reduceAdd, Nat.reduceSub, List.replicate_succ, List.replicate_zero, List.cons_append, List.nil_append, List.append_nil, List.getElem?_cons_zero, List.getElem?_cons_succ, List.set_cons_zero, List.set_cons_succ, Option.some.injEq, exists_eq_left', atI_0, atI_1, atI_2, atI_3, atI_4, atI_5, atI_6, atI_7, ixN_50, ixN_51, ixN_52, ixN_53, ixN_54, ixN_30, ixN_31, ixN_32, put_same, put_put, true_and, and_true, decide_true, decide_false, Bool.not_true, Bool.not_false, Bool.false_eq_true, if_true, if_false, decide_eq_true_eq, Bool.not_eq_true', decide_eq_false_iff_not, mem_one, ex_one, and_self, xd_mk, qAdd_i, qAdd_t, qAdd_s, qAdd_l, qMul_i, qMul_t, qMul_l, qSub_i, qDiv_i, qMod_i, qPow_i, qIAdd_i, qEq_i, qEq_b, qEq_s, qCmp_i, qIsN, qSl_t, qSl_l, qSl_s, qInt_i, qInt_b, qInt1, qMax, qMin, qList_t, qList_l, i_Disk, l_Disk, h_Disk_write, h_Disk_sync, h_Disk_blocks, h_Disk_synced, h_Disk_cut, h_Disk_drop, h_Disk_copy, g_Disk_rows, p_Disk_rows, k_Disk_rows, g_Disk_lasting, p_Disk_lasting, k_Disk_lasting, gOpenD, rdSetOpen, hL2.bl]
            rw [Int.toNat_natCast, ← List.map_take]
            refine ⟨by (first | exact slK | (rw [sizeLine_eq]; omega) | (rw [sizeLine_eq]; simp; omega)), ⟨by omega, by rw [eb]; omega, by rw [sizeLine_eq, eb]; omega⟩, ?_⟩
            have em : (if (m : Int) < (l : Nat) then (m : Int) else (l : Nat)) = ((min l m : Nat) : Int) := by split <;> omega
            rw [em]
            exact hN _ _ ⟨r2, rows.take m, min l m, hL2.write _, by rw [List.length_take]; omega, _, _, _, _, _, _, _, _, _, _, rfl⟩
          | false =>
            rw [if_neg (by decide)]
            simp only [dSeq, dAsg, dRet, dRetN, dDrop, dRaise, dBreak, dCont, dPar, dAug, dFor, dNext, dSetF, dAugF, dRaiseF, dIfS, dTest, dOp, dVar, dC, dCB, dCons, dNil, dCall, dAndV, dOrV, dNotV, dAndT, dOrT, dNotT, dIf, dTup, dLst, dLstV, dSl, dSlV, oSome, oNone, dNeg, gN, gT, gConsD, gNilD, gSubD, gFldD, dChain, dLc, dBM, isLst, iSeqD, iR1, iR2, iR3, dYes, isn_non, isn_bl, isn_int, isn_str, isn_ref, isn_tup, isn_rol, isn_obj, rdIx_tup, rdIx_rol, rdIx_put, rdSet, rdLen_tup, rdLen_rol, rdLen_str, rdLen_put, rdAppend, rdExt, rdPopAt, rdIsB, isBlV, rdStrI, rdIntS, dFrz, dFld, insOf_put, dMeth, lstOf_rol, lstOf_put, seqOf_tup, seqOf_rol, seqOf_put, frz_tup, frz_rol, frz_int, frz_bl, frz_non, frz_str, frz_obj, startN, wipeD, List.map_cons, List.map_nil, List.length_cons, List.length_nil, Nat.zero_add, Nat.sub_self, Nat.reduceAdd, Nat.reduceSub, List.replicate_succ, List.replicate_zero, List.cons_append, List.nil_append, List.append_nil, List.getElem?_cons_zero, List.getElem?_cons_succ, List.set_cons_zero, List.set_cons_succ, Option.some.injEq, exists_eq_left', atI_0, atI_1, atI_2, atI_3, atI_4, atI_5, atI_6, atI_7, ixN_50, ixN_51, ixN_52, ixN_53, ixN_54, ixN_30, ixN_31, ixN_32, put_same, put_put, true_and, and_true, decide_true, decide_false, Bool.not_true, Bool.not_false, Bool.false_eq_true, if_true, if_false, decide_eq_true_eq, Bool.not_eq_true', decide_eq_false_iff_not, mem_one, ex_one, and_self, xd_mk, qAdd_i, qAdd_t, qAdd_s, qAdd_l, qMul_i, qMul_t, qMul_l, qSub_i, qDiv_i, qMod_i, qPow_i, qIAdd_i, qEq_i, qEq_b, qEq_s, qCmp_i, qIsN, qSl_t, qSl_l, qSl_s, qInt_i, qInt_b, qInt1, qMax, qMin, qList_t, qList_l, i_Disk, l_Disk, h_Disk_write, h_Disk_sync, h_Disk_blocks, h_Disk_synced, h_Disk_cut, h_Disk_drop, h_Disk_copy, g_Disk_rows, p_Disk_rows, k_Disk_rows, g_Disk_lasting, p_Disk_lasting, k_Disk_lasting]
            refine ⟨slK, ne_tup (n := 2) (cl_two (by decide +kernel) trivial) (by decide) ?_⟩
            simp only [dSeq, dAsg, dRet, dRetN, dDrop, dRaise, dBreak, dCont, dPar, dAug, dFor, dNext, dSetF, dAugF, dRaiseF, dIfS, dTest, dOp, dVar, dC, dCB, dCons, dNil, dCall, dAndV, dOrV, dNotV, dAndT, dOrT, dNotT, dIf, dTup, dLst, dLstV, dSl, dSlV, oSome, oNone, dNeg, gN, gT, gConsD, gNilD, gSubD, gFldD, dChain, dLc, dBM, isLst, iSeqD, iR1, iR2, iR3, dYes, isn_non, isn_bl, isn_int, isn_str, isn_ref, isn_tup, isn_rol, isn_obj, rdIx_tup, rdIx_rol, rdIx_put, rdSet, rdLen_tup, rdLen_rol, rdLen_str, rdLen_put, rdAppend, rdExt, rdPopAt, rdIsB, isBlV, rdStrI, rdIntS, dFrz, dFld, insOf_put, dMeth, lstOf_rol, lstOf_put, seqOf_tup, seqOf_rol, seqOf_put, frz_tup, frz_rol, frz_int, frz_bl, frz_non, frz_str, frz_obj, startN, wipeD, List.map_cons, List.map_nil, List.length_cons, List.length_nil, Nat.zero_add, Nat.sub_self, Nat.reduceAdd, Nat.reduceSub, List.replicate_succ, List.replicate_zero, List.cons_append, List.nil_append, List.append_nil, List.getElem?_cons_zero, List.getElem?_cons_succ, List.set_cons_zero, List.set_cons_succ, Option.some.injEq, exists_eq_left', atI_0, atI_1, atI_2, atI_3, atI_4, atI_5, atI_6, atI_7, ixN_50, ixN_51, ixN_52, ixN_53, ixN_54, ixN_30, ixN_31, ixN_32, put_same, put_put, true_and, and_true, decide_true, decide_false, Bool.not_true, Bool.not_false, Bool.false_eq_true, if_true, if_false, decide_eq_true_eq, Bool.not_eq_true', decide_eq_false_iff_not, mem_one, ex_one, and_self, xd_mk, qAdd_i, qAdd_t, qAdd_s, qAdd_l, qMul_i, qMul_t, qMul_l, qSub_i, qDiv_i, qMod_i, qPow_i, qIAdd_i, qEq_i, qEq_b, qEq_s, qCmp_i, qIsN, qSl_t, qSl_l, qSl_s, qInt_i, qInt_b, qInt1, qMax, qMin, qList_t, qList_l, i_Disk, l_Disk, h_Disk_write, h_Disk_sync, h_Disk_blocks, h_Disk_synced, h_Disk_cut, h_Disk_drop, h_Disk_copy, g_Disk_rows, p_Disk_rows, k_Disk_rows, g_Disk_lasting, p_Disk_lasting, k_Disk_lasting]
            exact hN _ _ ⟨r1, rows, l, hL, by omega, _, _, _, _, _, _, _, _, _, _, rfl⟩
        refine ifS_F (fun Q X q => ?_) ?_
        · simp only [dSeq, dAsg, dRet, dRetN, dDrop, dRaise, dBreak, dCont, dPar, dAug, dFor, dNext, dSetF, dAugF, dRaiseF, dIfS, dTest, dOp, dVar, dC, dCB, dCons, dNil, dCall, dAndV, dOrV, dNotV, dAndT, dOrT, dNotT, dIf, dTup, dLst, dLstV, dSl, dSlV, rdSlV, oSome, oNone, dNeg, gN, gT, gConsD, gNilD, gSubD, gFldD, dChain, dLc, dBM, isLst, iSeqD, iR1, iR2, iR3, dYes, rdAddV, rdMulV, rdSub, rdDiv, rdMod, rdPow, rdIAdd, rdCmp, rdIsN, isn_non, isn_bl, isn_int, isn_str, isn_ref, isn_tup, isn_rol, isn_obj, rdEqG, rdIx_tup, rdIx_rol, rdIx_put, rdSet, rdLen_tup, rdLen_rol, rdLen_str, rdLen_put, rdInt1, rdInt, rdInt2, rdAppend, rdExt, rdPopAt, rdMaxL, rdMinL, rdListV, rdIsB, isBlV, rdStrI, rdIntS, dFrz, dFld, insOf_put, dMeth, lstOf_rol, lstOf_put, seqOf_tup, seqOf_rol, seqOf_put, frz_tup, frz_rol, frz_int, frz_bl, frz_non, frz_str, frz_obj, startN, wipeD, List.map_cons, List.map_nil, List.length_cons, List.length_nil, Nat.zero_add, Nat.sub_self, Nat.reduceAdd, Nat.reduceSub, List.replicate_succ, List.replicate_zero, List.cons_append, List.nil_append, List.append_nil, List.getElem?_cons_zero, List.getElem?_cons_succ, List.set_cons_zero, List.set_cons_succ, Option.some.injEq, exists_eq_left', DEnds.xd, atI_0, atI_1, atI_2, atI_3, atI_4, atI_5, atI_6, atI_7, ixN_50, ixN_51, ixN_52, ixN_53, ixN_54, ixN_30, ixN_31, ixN_32, put_same, put_put, true_and, and_true, decide_true, decide_false, Bool.not_true, Bool.not_false, Bool.false_eq_true, if_true, if_false, decide_eq_true_eq, Bool.not_eq_true', decide_eq_false_iff_not, mem_one, ex_one, and_self, i_Disk, l_Disk, h_Disk_write, h_Disk_sync, h_Disk_blocks, h_Disk_synced, h_Disk_cut, h_Disk_drop, h_Disk_copy, g_Disk_rows, p_Disk_rows, k_Disk_rows, g_Disk_lasting, p_Disk_lasting, k_Disk_lasting, nm, decide_eq_false h6]
          exact q
        · simp only [dSeq, dAsg, dRet, dRetN, dDrop, dRaise, dBreak, dCont, dPar, dAug, dFor, dNext, dSetF, dAugF, dRaiseF, dIfS, dTest, dOp, dVar, dC, dCB, dCons, dNil, dCall, dAndV, dOrV, dNotV, dAndT, dOrT, dNotT, dIf, dTup, dLst, dLstV, dSl, dSlV, rdSlV, oSome, oNone, dNeg, gN, gT, gConsD, gNilD, gSubD, gFldD, dChain, dLc, dBM, isLst, iSeqD, iR1, iR2, iR3, dYes, rdAddV, rdMulV, rdSub, rdDiv, rdMod, rdPow, rdIAdd, rdCmp, rdIsN, isn_non, isn_bl, isn_int, isn_str, isn_ref, isn_tup, isn_rol, isn_obj, rdEqG, rdIx_tup, rdIx_rol, rdIx_put, rdSet, rdLen_tup, rdLen_rol, rdLen_str, rdLen_put, rdInt1, rdInt, rdInt2, rdAppend, rdExt, rdPopAt, rdMaxL, rdMinL, rdListV, rdIsB, isBlV, rdStrI, rdIntS, dFrz, dFld, insOf_put, dMeth, lstOf_rol, lstOf_put, seqOf_tup, seqOf_rol, seqOf_put, frz_tup, frz_rol, frz_int, frz_bl, frz_non, frz_str, frz_obj, startN, wipeD, List.map_cons, List.map_nil, List.length_cons, List.length_nil, Nat.zero_add, Nat.sub_self, Nat.reduceAdd, Nat.reduceSub, List.replicate_succ, List.replicate_zero, List.cons_append, List.nil_append, List.append_nil, List.getElem?_cons_zero, List.getElem?_cons_succ, List.set_cons_zero, List.set_cons_succ, Option.some.injEq, exists_eq_left', DEnds.xd, atI_0, atI_1, atI_2, atI_3, atI_4, atI_5, atI_6, atI_7, ixN_50, ixN_51, ixN_52, ixN_53, ixN_54, ixN_30, ixN_31, ixN_32, put_same, put_put, true_and, and_true, decide_true, decide_false, Bool.not_true, Bool.not_false, Bool.false_eq_true, if_true, if_false, decide_eq_true_eq, Bool.not_eq_true', decide_eq_false_iff_not, mem_one, ex_one, and_self, i_Disk, l_Disk, h_Disk_write, h_Disk_sync, h_Disk_blocks, h_Disk_synced, h_Disk_cut, h_Disk_drop, h_Disk_copy, g_Disk_rows, p_Disk_rows, k_Disk_rows, g_Disk_lasting, p_Disk_lasting, k_Disk_lasting]
          exact hN _ _ ⟨r1, rows, l, hL, by omega, _, _, _, _, _, _, _, _, _, _, rfl⟩
      obtain ⟨r2, rows2, l2, hL2, hlen2, z5, z6, z7, z8, z9, z10, z11, z12, z13, z14, rfl⟩ := hM
      obtain ⟨dx, ho⟩ := hL2.dk.obj
      simp only [dSeq, dAsg, dRet, dRetN, dDrop, dRaise, dBreak, dCont, dPar, dAug, dFor, dNext, dSetF, dAugF, dRaiseF, dIfS, dTest, dOp, dVar, dC, dCB, dCons, dNil, dCall, dAndV, dOrV, dNotV, dAndT, dOrT, dNotT, dIf, dTup, dLst, dLstV, dSl, dSlV, oSome, oNone, dNeg, gN, gT, gConsD, gNilD, gSubD, gFldD, dChain, dLc, dBM, isLst, iSeqD, iR1, iR2, iR3, dYes, isn_non, isn_bl, isn_int, isn_str, isn_ref, isn_tup, isn_rol, isn_obj, rdIx_tup, rdIx_rol, rdIx_put, rdSet, rdLen_tup, rdLen_rol, rdLen_str, rdLen_put, rdAppend, rdExt, rdPopAt, rdIsB, isBlV, rdStrI, rdIntS, dFrz, dFld, insOf_put, dMeth, lstOf_rol, lstOf_put, seqOf_tup, seqOf_rol, seqOf_put, frz_tup, frz_rol, frz_int, frz_bl, frz_non, frz_str, frz_obj, startN, wipeD, List.map_cons, List.map_nil, List.length_cons, List.length_nil, Nat.zero_add, Nat.sub_self, Nat.reduceAdd, Nat.reduceSub, List.replicate_succ, List.replicate_zero, List.cons_append, List.nil_append, List.append_nil, List.getElem?_cons_zero, List.getElem?_cons_succ, List.set_cons_zero, List.set_cons_succ, Option.some.injEq, exists_eq_left', atI_0, atI_1, atI_2, atI_3, atI_4, atI_5, atI_6, atI_7, ixN_50, ixN_51, ixN_52, ixN_53, ixN_54, ixN_30, ixN_31, ixN_32, put_same, put_put, true_and, and_true, decide_true, decide_false, Bool.not_true, Bool.not_false, Bool.false_eq_true, if_true, if_false, decide_eq_true_eq, Bool.not_eq_true', decide_eq_false_iff_not, mem_one, ex_one, and_self, xd_mk, qAdd_i, qAdd_t, qAdd_s, qAdd_l, qMul_i, qMul_t, qMul_l, qSub_i, qDiv_i, qMod_i, qPow_i, qIAdd_i, qEq_i, qEq_b, qEq_s, qCmp_i, qIsN, qSl_t, qSl_l, qSl_s, qInt_i, qInt_b, qInt1, qMax, qMin, qList_t, qList_l, i_Disk, l_Disk, h_Disk_write, h_Disk_sync, h_Disk_blocks, h_Disk_synced, h_Disk_cut, h_Disk_drop, h_Disk_copy, g_Disk_rows, p_Disk_rows, k_Disk_rows, g_Disk_lasting, p_Disk_lasting, k_Disk_lasting, nm, insOf_ref ho]
      refine ⟨x, r2, rows2, l2, rfl, hL2.dk, fun p hp => ?_⟩
      have hL3 := hL2.sub (Sub.new (m := .lst (rows2.map tb)) hp)
      obtain ⟨dx, ho3⟩ := hL3.dk.obj
      simp only [dSeq, dAsg, dRet, dRetN, dDrop, dRaise, dBreak, dCont, dPar, dAug, dFor, dNext, dSetF, dAugF, dRaiseF, dIfS, dTest, dOp, dVar, dC, dCB, dCons, dNil, dCall, dAndV, dOrV, dNotV, dAndT, dOrT, dNotT, dIf, dTup, dLst, dLstV, dSl, dSlV, oSome, oNone, dNeg, gN, gT, gConsD, gNilD, gSubD, gFldD, dChain, dLc, dBM, isLst, iSeqD, iR1, iR2, iR3, dYes, isn_non, isn_bl, isn_int, isn_str, isn_ref, isn_tup, isn_rol, isn_obj, rdIx_tup, rdIx_rol, rdIx_put, rdSet, rdLen_tup, rdLen_rol, rdLen_str, rdLen_put, rdAppend, rdExt, rdPopAt, rdIsB, isBlV, rdStrI, rdIntS, dFrz, dFld, insOf_put, dMeth, lstOf_rol, lstOf_put, seqOf_tup, seqOf_rol, seqOf_put, frz_tup, frz_rol, frz_int, frz_bl, frz_non, frz_str, frz_obj, startN, wipeD, List.map_cons, List.map_nil, List.length_cons, List.length_nil, Nat.zero_add, Nat.sub_self, Nat.reduceAdd, Nat.reduceSub, List.replicate_succ, List.replicate_zero, List.cons_append, List.nil_append, List.append_nil, List.getElem?_cons_zero, List.getElem?_cons_succ, List.set_cons_zero, List.set_cons_succ, Option.some.injEq, exists_eq_left', atI_0, atI_1, atI_2, atI_3, atI_4, atI_5, atI_6, atI_7, ixN_50, ixN_51, ixN_52, ixN_53, ixN_54, ixN_30, ixN_31, ixN_32, put_same, put_put, true_and, and_true, decide_true, decide_false, Bool.not_true, Bool.not_false, Bool.false_eq_true, if_true, if_false, decide_eq_true_eq, Bool.not_eq_true', decide_eq_false_iff_not, mem_one, ex_one, and_self, xd_mk, qAdd_i, qAdd_t, qAdd_s, qAdd_l, qMul_i, qMul_t, qMul_l, qSub_i, qDiv_i, qMod_i, qPow_i, qIAdd_i, qEq_i, qEq_b, qEq_s, qCmp_i, qIsN, qSl_t, qSl_l, qSl_s, qInt_i, qInt_b, qInt1, qMax, qMin, qList_t, qList_l, i_Disk, l_Disk, h_Disk_write, h_Disk_sync, h_Disk_blocks, h_Disk_synced, h_Disk_cut, h_Disk_drop, h_Disk_copy, g_Disk_rows, p_Disk_rows, k_Disk_rows, g_Disk_lasting, p_Disk_lasting, k_Disk_lasting]
      refine ⟨_, _, _, rfl, val_ref put_same, val_ref hL3.bl, shw_rows hL3.ok (by omega), ?_⟩
      simp only [dSeq, dAsg, dRet, dRetN, dDrop, dRaise, dBreak, dCont, dPar, dAug, dFor, dNext, dSetF, dAugF, dRaiseF, dIfS, dTest, dOp, dVar, dC, dCB, dCons, dNil, dCall, dAndV, dOrV, dNotV, dAndT, dOrT, dNotT, dIf, dTup, dLst, dLstV, dSl, dSlV, oSome, oNone, dNeg, gN, gT, gConsD, gNilD, gSubD, gFldD, dChain, dLc, dBM, isLst, iSeqD, iR1, iR2, iR3, dYes, isn_non, isn_bl, isn_int, isn_str, isn_ref, isn_tup, isn_rol, isn_obj, rdIx_tup, rdIx_rol, rdIx_put, rdSet, rdLen_tup, rdLen_rol, rdLen_str, rdLen_put, rdAppend, rdExt, rdPopAt, rdIsB, isBlV, rdStrI, rdIntS, dFrz, dFld, insOf_put, dMeth, lstOf_rol, lstOf_put, seqOf_tup, seqOf_rol, seqOf_put, frz_tup, frz_rol, frz_int, frz_bl, frz_non, frz_str, frz_obj, startN, wipeD, List.map_cons, List.map_nil, List.length_cons, List.length_nil, Nat.zero_add, Nat.sub_self, Nat.reduceAdd, Nat.reduceSub, List.replicate_succ, List.replicate_zero, List.cons_append, List.nil_append, List.append_nil, List.getElem?_cons_zero, List.getElem?_cons_succ, List.set_cons_zero, List.set_cons_succ, Option.some.injEq, exists_eq_left', atI_0, atI_1, atI_2, atI_3, atI_4, atI_5, atI_6, atI_7, ixN_50, ixN_51, ixN_52, ixN_53, ixN_54, ixN_30, ixN_31, ixN_32, put_same, put_put, true_and, and_true, decide_true, decide_false, Bool.not_true, Bool.not_false, Bool.false_eq_true, if_true, if_false, decide_eq_true_eq, Bool.not_eq_true', decide_eq_false_iff_not, mem_one, ex_one, and_self, xd_mk, qAdd_i, qAdd_t, qAdd_s, qAdd_l, qMul_i, qMul_t, qMul_l, qSub_i, qDiv_i, qMod_i, qPow_i, qIAdd_i, qEq_i, qEq_b, qEq_s, qCmp_i, qIsN, qSl_t, qSl_l, qSl_s, qInt_i, qInt_b, qInt1, qMax, qMin, qList_t, qList_l, i_Disk, l_Disk, h_Disk_write, h_Disk_sync, h_Disk_blocks, h_Disk_synced, h_Disk_cut, h_Disk_drop, h_Disk_copy, g_Disk_rows, p_Disk_rows, k_Disk_rows, g_Disk_lasting, p_Disk_lasting, k_Disk_lasting, insOf_ref ho3]
      refine ⟨x, r2, rows2, l2, rfl, hL3.dk, ?_⟩
      simp only [dSeq, dAsg, dRet, dRetN, dDrop, dRaise, dBreak, dCont, dPar, dAug, dFor, dNext, dSetF, dAugF, dRaiseF, dIfS, dTest, dOp, dVar, dC, dCB, dCons, dNil, dCall, dAndV, dOrV, dNotV, dAndT, dOrT, dNotT, dIf, dTup, dLst, dLstV, dSl, dSlV, oSome, oNone, dNeg, gN, gT, gConsD, gNilD, gSubD, gFldD, dChain, dLc, dBM, isLst, iSeqD, iR1, iR2, iR3, dYes, isn_non, isn_bl, isn_int, isn_str, isn_ref, isn_tup, isn_rol, isn_obj, rdIx_tup, rdIx_rol, rdIx_put, rdSet, rdLen_tup, rdLen_rol, rdLen_str, rdLen_put, rdAppend, rdExt, rdPopAt, rdIsB, isBlV, rdStrI, rdIntS, dFrz, dFld, insOf_put, dMeth, lstOf_rol, lstOf_put, seqOf_tup, seqOf_rol, seqOf_put, frz_tup, frz_rol, frz_int, frz_bl, frz_non, frz_str, frz_obj, startN, wipeD, List.map_cons, List.map_nil, List.length_cons, List.length_nil, Nat.zero_add, Nat.sub_self, Nat.reduceAdd, Nat.reduceSub, List.replicate_succ, List.replicate_zero, List.cons_append, List.nil_append, List.append_nil, List.getElem?_cons_zero, List.getElem?_cons_succ, List.set_cons_zero, List.set_cons_succ, Option.some.injEq, exists_eq_left', atI_0, atI_1, atI_2, atI_3, atI_4, atI_5, atI_6, atI_7, ixN_50, ixN_51, ixN_52, ixN_53, ixN_54, ixN_30, ixN_31, ixN_32, put_same, put_put, true_and, and_true, decide_true, decide_false, Bool.not_true, Bool.not_false, Bool.false_eq_true, if_true, if_false, decide_eq_true_eq, Bool.not_eq_true', decide_eq_false_iff_not, mem_one, ex_one, and_self, xd_mk, qAdd_i, qAdd_t, qAdd_s, qAdd_l, qMul_i, qMul_t, qMul_l, qSub_i, qDiv_i, qMod_i, qPow_i, qIAdd_i, qEq_i, qEq_b, qEq_s, qCmp_i, qIsN, qSl_t, qSl_l, qSl_s, qInt_i, qInt_b, qInt1, qMax, qMin, qList_t, qList_l, i_Disk, l_Disk, h_Disk_write, h_Disk_sync, h_Disk_blocks, h_Disk_synced, h_Disk_cut, h_Disk_drop, h_Disk_copy, g_Disk_rows, p_Disk_rows, k_Disk_rows, g_Disk_lasting, p_Disk_lasting, k_Disk_lasting]
      have hle3 := hL3.dk.le
      refine ⟨_, _, .int (l2 : Nat), rfl, rfl, rfl, shw_int (by omega), ?_⟩
      simp only [dSeq, dAsg, dRet, dRetN, dDrop, dRaise, dBreak, dCont, dPar, dAug, dFor, dNext, dSetF, dAugF, dRaiseF, dIfS, dTest, dOp, dVar, dC, dCB, dCons, dNil, dCall, dAndV, dOrV, dNotV, dAndT, dOrT, dNotT, dIf, dTup, dLst, dLstV, dSl, dSlV, oSome, oNone, dNeg, gN, gT, gConsD, gNilD, gSubD, gFldD, dChain, dLc, dBM, isLst, iSeqD, iR1, iR2, iR3, dYes, isn_non, isn_bl, isn_int, isn_str, isn_ref, isn_tup, isn_rol, isn_obj, rdIx_tup, rdIx_rol, rdIx_put, rdSet, rdLen_tup, rdLen_rol, rdLen_str, rdLen_put, rdAppend, rdExt, rdPopAt, rdIsB, isBlV, rdStrI, rdIntS, dFrz, dFld, insOf_put, dMeth, lstOf_rol, lstOf_put, seqOf_tup, seqOf_rol, seqOf_put, frz_tup, frz_rol, frz_int, frz_bl, frz_non, frz_str, frz_obj, startN, wipeD, List.map_cons, List.map_nil, List.length_cons, List.length_nil, Nat.zero_add, Nat.sub_self, Nat.reduceAdd, Nat.reduceSub, List.replicate_succ, List.replicate_zero, List.cons_append, List.nil_append, List.append_nil, List.getElem?_cons_zero, List.getElem?_cons_succ, List.set_cons_zero, List.set_cons_succ, Option.some.injEq, exists_eq_left', atI_0, atI_1, atI_2, atI_3, atI_4, atI_5, atI_6, atI_7, ixN_50, ixN_51, ixN_52, ixN_53, ixN_54, ixN_30, ixN_31, ixN_32, put_same, put_put, true_and, and_true, decide_true, decide_false, Bool.not_true, Bool.not_false, Bool.false_eq_true, if_true, if_false, decide_eq_true_eq, Bool.not_eq_true', decide_eq_false_iff_not, mem_one, ex_one, and_self, xd_mk, qAdd_i, qAdd_t, qAdd_s, qAdd_l, qMul_i, qMul_t, qMul_l, qSub_i, qDiv_i, qMod_i, qPow_i, qIAdd_i, qEq_i, qEq_b, qEq_s, qCmp_i, qIsN, qSl_t, qSl_l, qSl_s, qInt_i, qInt_b, qInt1, qMax, qMin, qList_t, qList_l, i_Disk, l_Disk, h_Disk_write, h_Disk_sync, h_Disk_blocks, h_Disk_synced, h_Disk_cut, h_Disk_drop, h_Disk_copy, g_Disk_rows, p_Disk_rows, k_Disk_rows, g_Disk_lasting, p_Disk_lasting, k_Disk_lasting]
      exact ⟨r2, rows2, l2, hL3, hlen2, _, _, _, _, _, _, _, _, _, _, rfl⟩
    · obtain ⟨r1, rows, l, hL, hlen, y5, y6, y7, y8, y9, y10, y11, y12, y13, y14, rfl⟩ := hw
      refine hN _ _ ⟨r1, rows, l, hL, ?_, _, rfl⟩
      rw [rangeL_len] at hlen
      omega
  · obtain ⟨r', rows, l, hL, hlen, ys, rfl⟩ := hM
    simp only [dSeq, dAsg, dRet, dRetN, dDrop, dRaise, dBreak, dCont, dPar, dAug, dFor, dNext, dSetF, dAugF, dRaiseF, dIfS, dTest, dOp, dVar, dC, dCB, dCons, dNil, dCall, dAndV, dOrV, dNotV, dAndT, dOrT, dNotT, dIf, dTup, dLst, dLstV, dSl, dSlV, rdSlV, oSome, oNone, dNeg, gN, gT, gConsD, gNilD, gSubD, gFldD, dChain, dLc, dBM, isLst, iSeqD, iR1, iR2, iR3, dYes, rdAddV, rdMulV, rdSub, rdDiv, rdMod, rdPow, rdIAdd, rdCmp, rdIsN, isn_non, isn_bl, isn_int, isn_str, isn_ref, isn_tup, isn_rol, isn_obj, rdEqG, rdIx_tup, rdIx_rol, rdIx_put, rdSet, rdLen_tup, rdLen_rol, rdLen_str, rdLen_put, rdInt1, rdInt, rdInt2, rdAppend, rdExt, rdPopAt, rdMaxL, rdMinL, rdListV, rdIsB, isBlV, rdStrI, rdIntS, dFrz, dFld, insOf_put, dMeth, lstOf_rol, lstOf_put, seqOf_tup, seqOf_rol, seqOf_put, frz_tup, frz_rol, frz_int, frz_bl, frz_non, frz_str, frz_obj, startN, wipeD, List.map_cons, List.map_nil, List.length_cons, List.length_nil, Nat.zero_add, Nat.sub_self, Nat.reduceAdd, Nat.reduceSub, List.replicate_succ, List.replicate_zero, List.cons_append, List.nil_append, List.append_nil, List.getElem?_cons_zero, List.getElem?_cons_succ, List.set_cons_zero, List.set_cons_succ, Option.some.injEq, exists_eq_left', DEnds.xd, atI_0, atI_1, atI_2, atI_3, atI_4, atI_5, atI_6, atI_7, ixN_50, ixN_51, ixN_52, ixN_53, ixN_54, ixN_30, ixN_31, ixN_32, put_same, put_put, true_and, and_true, decide_true, decide_false, Bool.not_true, Bool.not_false, Bool.false_eq_true, if_true, if_false, decide_eq_true_eq, Bool.not_eq_true', decide_eq_false_iff_not, mem_one, ex_one, and_self, i_Disk, l_Disk, h_Disk_write, h_Disk_sync, h_Disk_blocks, h_Disk_synced, h_Disk_cut, h_Disk_drop, h_Disk_copy, g_Disk_rows, p_Disk_rows, k_Disk_rows, g_Disk_lasting, p_Disk_lasting, k_Disk_lasting, nm]
    exact h T r' rows l hL hlen
end Lw

--CLS Disk
namespace Lw
open PySem PySem.Spec PyProof.Rows L2 VD
section
variable {A : Ad} {S T U : Sto} {a c x r b r' y s d s' : Addr} {rows bs rows2 bs2 : List (List Int)} {l l2 : Nat}
theorem Led.self (h : Led A S T a c x r b r' rows bs l) : Led A T T a c x r' b r' rows bs l := ⟨h.dk, h.bl, h.hd, h.ok, h.br, h.ra, h.rc, h.ba, h.bc, .inl rfl, Off.refl⟩
theorem Led.there (h : Led A S T a c x r b r' rows bs l) : T x ≠ none ∧ T r' ≠ none ∧ T b ≠ none := by
  obtain ⟨dx, e⟩ := h.dk.obj
  exact ⟨by rw [e]; simp, by rw [h.dk.lst]; simp, by rw [h.bl]; simp⟩
/-- two disks with nothing in common -/
structure Ap (x r b y s d : Addr) : Prop where
  xy : x ≠ y
  xs : x ≠ s
  xd : x ≠ d
  ry : r ≠ y
  rs : r ≠ s
  rd : r ≠ d
  by' : b ≠ y
  bs : b ≠ s
  bd : b ≠ d
theorem Ap.symm (h : Ap x r b y s d) : Ap y s d x r b := ⟨h.xy.symm, h.ry.symm, h.by'.symm, h.xs.symm, h.rs.symm, h.bs.symm, h.xd.symm, h.rd.symm, h.bd.symm⟩
/-- the other disk is led on -/
theorem Led.other (h : Led A T T a c x r b r rows bs l) (k : Led A T U a c y s d s' rows2 bs2 l2) (p : Ap x r b y s d) : Led A U U a c x r b r rows bs l ∧ Ap x r b y s' d := by
  obtain ⟨xa, xc, xb⟩ := h.xa
  obtain ⟨tx, tr, tb_⟩ := h.there
  have ex := k.off x tx (by simp [xa, xc, p.xy, p.xs, p.xd])
  have er := k.off r tr (by simp [h.ra, h.rc, p.ry, p.rs, p.rd])
  have eb := k.off b tb_ (by simp [h.ba, h.bc, p.by', p.bs, p.bd])
  have ns : ∀ {q : Addr}, T q ≠ none → q ≠ s → q ≠ s' := fun {q} t n z => by
    rcases k.new with w | w
    · exact n (z.trans w)
    · exact t (by rw [z]; exact w)
  exact ⟨⟨h.dk.frame ex er, eb.trans h.bl, k.hd, h.ok, h.br, h.ra, h.rc, h.ba, h.bc, .inl rfl, Off.refl⟩, ⟨p.xy, ns tx p.xs, p.xd, p.ry, ns tr p.rs, p.rd, p.by', ns tb_ p.bs, p.bd⟩⟩
end
theorem go_is {A : Ad} {x y d : Dv} {S : Sto} {Q : QD} {X : XD} (hx : valOf x S = d) (hy : valOf y S = d) (h : shwD d = true) (q : Q (.bl true) S) : sp__law_is A [x, y] S Q X := ⟨x, y, d, rfl, hx, hy, h, q⟩
/-- the blocks are as accounted -/
theorem go_blocks {A : Ad} {S T : Sto} {a c x r b r' : Addr} {rows : List (List Int)} {l : Nat} {Q : QD} {X X2 : XD} (h : Led A S T a c x r b r' rows rows l) (q : ∀ U, VD.Sub T U → Q (.bl true) U) :
    sp_Disk_blocks A [.ref x] T (fun v S1 => sp__law_is A [v, .ref b] S1 Q X2) X := ⟨x, r', rows, l, rfl, h.dk, fun p hp => by
  have h2 := h.sub (Sub.new (m := .lst (rows.map tb)) hp)
  exact go_is (val_ref put_same) (val_ref h2.bl) (shw_rows h.ok h.dk.few) (q _ (Sub.new hp))⟩
theorem go_synced {A : Ad} {S T : Sto} {a c x r b r' : Addr} {rows bs : List (List Int)} {l : Nat} {Q : QD} {X X2 : XD} (h : Led A S T a c x r b r' rows bs l) (q : Q (.bl true) T) :
    sp_Disk_synced A [.ref x] T (fun v S1 => sp__law_is A [v, .int (l : Nat)] S1 Q X2) X := ⟨x, r', rows, l, rfl, h.dk, by
  have h1 := h.dk.le
  have h2 := h.dk.few
  exact go_is (d := .int (l : Nat)) rfl rfl (shw_int (by omega)) q⟩
def r_law (A : Ad) : DS := (dSeq (dAsg (dCall (sp__law_pool A) (dCons (dVar 0) dNil)) (gN 1))
    (dSeq (dFor (iR1 (dCons (dC (.int 3)) dNil)) (gN 2) (dSeq (dPar 3 4 (dCons (dCall (sp_Disk A) dNil) (dCons (dLst dNil) dNil)))
    (dSeq (dIfS (dOrT (dTest (dOp rdNe (dMeth [(A.Disk, (sp_Disk_blocks A))] (Str.ofString "blocks") (dVar 3) dNil) (dLstV dNil))) (dNotT (dTest (dCall (sp__law_is A) (dCons (dMeth [(A.Disk, (sp_Disk_synced A))] (Str.ofString "synced") (dVar 3) dNil) (dCons (dC (.int 0)) dNil)))))) (dRet (dC (.bl false))) dNext)
    (dSeq (dAsg (dCall (sp__law_led A) (dCons (dVar 1) (dCons (dVar 3) (dCons (dVar 4) (dCons (dC (.int 0)) (dCons (dCall (sp__law_draw A) (dCons (dVar 1) (dCons (dC (.int 20)) dNil))) dNil)))))) (gN 5))
    (dSeq (dIfS (dTest (dOp (rdIsN fun b => b) (dVar 5) (dC .non))) (dRet (dC (.bl false))) dNext)
    (dSeq (dPar 6 7 (dCons (dMeth [(A.Disk, (sp_Disk_copy A))] (Str.ofString "copy") (dVar 3) dNil) (dCons (dCB rdList (dCons (dVar 4) dNil)) dNil)))
    (dSeq (dAsg (dCall (sp__law_led A) (dCons (dVar 1) (dCons (dVar 6) (dCons (dVar 7) (dCons (dVar 5) (dCons (dCall (sp__law_draw A) (dCons (dVar 1) (dCons (dC (.int 10)) dNil))) dNil)))))) (gN 8))
    (dSeq (dIfS (dOrT (dTest (dOp (rdIsN fun b => b) (dVar 8) (dC .non))) (dOrT (dNotT (dTest (dCall (sp__law_is A) (dCons (dMeth [(A.Disk, (sp_Disk_blocks A))] (Str.ofString "blocks") (dVar 3) dNil) (dCons (dVar 4) dNil))))) (dNotT (dTest (dCall (sp__law_is A) (dCons (dMeth [(A.Disk, (sp_Disk_synced A))] (Str.ofString "synced") (dVar 3) dNil) (dCons (dVar 5) dNil))))))) (dRet (dC (.bl false))) dNext)
    (dSeq (dIfS (dOrT (dTest (dOp (rdIsN fun b => b) (dCall (sp__law_led A) (dCons (dVar 1) (dCons (dVar 3) (dCons (dVar 4) (dCons (dVar 5) (dCons (dCall (sp__law_draw A) (dCons (dVar 1) (dCons (dC (.int 10)) dNil))) dNil)))))) (dC .non))) (dNotT (dTest (dCall (sp__law_is A) (dCons (dMeth [(A.Disk, (sp_Disk_blocks A))] (Str.ofString "blocks") (dVar 6) dNil) (dCons (dVar 7) dNil)))))) (dRet (dC (.bl false))) dNext)
    (dSeq (dDrop (dBM rdAppend (dMeth [(A.Disk, (sp_Disk_blocks A))] (Str.ofString "blocks") (dVar 3) dNil) (dCons (dTup (dCons (dC (.int 1)) dNil)) dNil)))
    (dIfS (dOrT (dNotT (dTest (dCall (sp__law_is A) (dCons (dMeth [(A.Disk, (sp_Disk_blocks A))] (Str.ofString "blocks") (dVar 3) dNil) (dCons (dVar 4) dNil))))) (dNotT (dTest (dCall (sp__law_is A) (dCons (dMeth [(A.Disk, (sp_Disk_synced A))] (Str.ofString "synced") (dVar 6) dNil) (dCons (dVar 8) dNil)))))) (dRet (dC (.bl false))) dNext)))))))))))
    (dRet (dC (.bl true)))))
theorem rd_law (A : Ad) : Rd (r_law A) 9 spLaw := by
  rintro ds S0 Q X ⟨ns0, rfl, hn0, rfl, hq⟩
  unfold r_law
  simp only [dSeq, dAsg, dRet, dRetN, dDrop, dRaise, dBreak, dCont, dPar, dAug, dFor, dNext, dSetF, dAugF, dRaiseF, dIfS, dTest, dOp, dVar, dC, dCB, dCons, dNil, dCall, dAndV, dOrV, dNotV, dAndT, dOrT, dNotT, dIf, dTup, dLst, dLstV, dSl, dSlV, oSome, oNone, dNeg, gN, gT, gConsD, gNilD, gSubD, gFldD, dChain, dLc, dBM, isLst, iSeqD, iR1, iR2, iR3, dYes, isn_non, isn_bl, isn_int, isn_str, isn_ref, isn_tup, isn_rol, isn_obj, rdIx_tup, rdIx_rol, rdIx_put, rdSet, rdLen_tup, rdLen_rol, rdLen_str, rdLen_put, rdAppend, rdExt, rdPopAt, rdIsB, isBlV, rdStrI, rdIntS, dFrz, dFld, insOf_put, dMeth, lstOf_rol, lstOf_put, seqOf_tup, seqOf_rol, seqOf_put, frz_tup, frz_rol, frz_int, frz_bl, frz_non, frz_str, frz_obj, startN, wipeD, List.map_cons, List.map_nil, List.length_cons, List.length_nil, Nat.zero_add, Nat.sub_self, Nat.reduceAdd, Nat.reduceSub, List.replicate_succ, List.replicate_zero, List.cons_append, List.nil_append, List.append_nil, List.getElem?_cons_zero, List.getElem?_cons_succ, List.set_cons_zero, List.set_cons_succ, Option.some.injEq, exists_eq_left', atI_0, atI_1, atI_2, atI_3, atI_4, atI_5, atI_6, atI_7, ixN_50, ixN_51, ixN_52, ixN_53, ixN_54, ixN_30, ixN_31, ixN_32, put_same, put_put, true_and, and_true, decide_true, decide_false, Bool.not_true, Bool.not_false, Bool.false_eq_true, if_true, if_false, decide_eq_true_eq, Bool.not_eq_true', decide_eq_false_iff_not, mem_one, ex_one, and_self, xd_mk, qAdd_i, qAdd_t, qAdd_s, qAdd_l, qMul_i, qMul_t, qMul_l, qSub_i, qDiv_i, qMod_i, qPow_i, qIAdd_i, qEq_i, qEq_b, qEq_s, qCmp_i, qIsN, qSl_t, qSl_l, qSl_s, qInt_i, qInt_b, qInt1, qMax, qMin, qList_t, qList_l, i_Disk, l_Disk, h_Disk_write, h_Disk_sync, h_Disk_blocks, h_Disk_synced, h_Disk_cut, h_Disk_drop, h_Disk_copy, g_Disk_rows, p_Disk_rows, k_Disk_rows, g_Disk_lasting, p_Disk_lasting, k_Disk_lasting]
  refine ⟨ns0, rfl, hn0, fun a c S _ _ hH => ?_⟩
  simp only [dSeq, dAsg, dRet, dRetN, dDrop, dRaise, dBreak, dCont, dPar, dAug, dFor, dNext, dSetF, dAugF, dRaiseF, dIfS, dTest, dOp, dVar, dC, dCB, dCons, dNil, dCall, dAndV, dOrV, dNotV, dAndT, dOrT, dNotT, dIf, dTup, dLst, dLstV, dSl, dSlV, oSome, oNone, dNeg, gN, gT, gConsD, gNilD, gSubD, gFldD, dChain, dLc, dBM, isLst, iSeqD, iR1, iR2, iR3, dYes, isn_non, isn_bl, isn_int, isn_str, isn_ref, isn_tup, isn_rol, isn_obj, rdIx_tup, rdIx_rol, rdIx_put, rdSet, rdLen_tup, rdLen_rol, rdLen_str, rdLen_put, rdAppend, rdExt, rdPopAt, rdIsB, isBlV, rdStrI, rdIntS, dFrz, dFld, insOf_put, dMeth, lstOf_rol, lstOf_put, seqOf_tup, seqOf_rol, seqOf_put, frz_tup, frz_rol, frz_int, frz_bl, frz_non, frz_str, frz_obj, startN, wipeD, List.map_cons, List.map_nil, List.length_cons, List.length_nil, Nat.zero_add, Nat.sub_self, Nat.reduceAdd, Nat.reduceSub, List.replicate_succ, List.replicate_zero, List.cons_append, List.nil_append, List.append_nil, List.getElem?_cons_zero, List.getElem?_cons_succ, List.set_cons_zero, List.set_cons_succ, Option.some.injEq, exists_eq_left', atI_0, atI_1, atI_2, atI_3, atI_4, atI_5, atI_6, atI_7, ixN_50, ixN_51, ixN_52, ixN_53, ixN_54, ixN_30, ixN_31, ixN_32, put_same, put_put, true_and, and_true, decide_true, decide_false, Bool.not_true, Bool.not_false, Bool.false_eq_true, if_true, if_false, decide_eq_true_eq, Bool.not_eq_true', decide_eq_false_iff_not, mem_one, ex_one, and_self, xd_mk, qAdd_i, qAdd_t, qAdd_s, qAdd_l, qMul_i, qMul_t, qMul_l, qSub_i, qDiv_i, qMod_i, qPow_i, qIAdd_i, qEq_i, qEq_b, qEq_s, qCmp_i, qIsN, qSl_t, qSl_l, qSl_s, qInt_i, qInt_b, qInt1, qMax, qMin, qList_t, qList_l, i_Disk, l_Disk, h_Disk_write, h_Disk_sync, h_Disk_blocks, h_Disk_synced, h_Disk_cut, h_Disk_drop, h_Disk_copy, g_Disk_rows, p_Disk_rows, k_Disk_rows, g_Disk_lasting, p_Disk_lasting, k_Disk_lasting]
  generalize hsc : List.map Dv.int ns0 = script
  have hH := hH.self
  refine for_go (fun j ρ T => IsH a c T T ∧ ∃ y2 y3 y4 y5 y6 y7 y8, ρ = [some (.rol script), some (.ref a), y2, y3, y4, y5, y6, y7, y8]) ⟨hH, _, _, _, _, _, _, _, rfl⟩ (fun _ _ _ _ _ => trivial) (fun j z ρ T hz hw => ?_) fun ρ T hw => ?_
  · obtain ⟨hT, y2, y3, y4, y5, y6, y7, y8, rfl⟩ := hw
    obtain ⟨hj, rfl⟩ := rangeL_mem hz
    clear hH
    refine cut_seq (fun ρ T => ∃ x r b, Led A T T a c x r b r [] [] 0 ∧ ∃ y2, ρ = [some (.rol script), some (.ref a), y2, some (.ref x), some (.ref b), y5, y6, y7, y8]) (fun N hN => ?_) fun ρ T hM => ?_
    · simp only [dSeq, dAsg, dRet, dRetN, dDrop, dRaise, dBreak, dCont, dPar, dAug, dFor, dNext, dSetF, dAugF, dRaiseF, dIfS, dTest, dOp, dVar, dC, dCB, dCons, dNil, dCall, dAndV, dOrV, dNotV, dAndT, dOrT, dNotT, dIf, dTup, dLst, dLstV, dSl, dSlV, oSome, oNone, dNeg, gN, gT, gConsD, gNilD, gSubD, gFldD, dChain, dLc, dBM, isLst, iSeqD, iR1, iR2, iR3, dYes, isn_non, isn_bl, isn_int, isn_str, isn_ref, isn_tup, isn_rol, isn_obj, rdIx_tup, rdIx_rol, rdIx_put, rdSet, rdLen_tup, rdLen_rol, rdLen_str, rdLen_put, rdAppend, rdExt, rdPopAt, rdIsB, isBlV, rdStrI, rdIntS, dFrz, dFld, insOf_put, dMeth, lstOf_rol, lstOf_put, seqOf_tup, seqOf_rol, seqOf_put, frz_tup, frz_rol, frz_int, frz_bl, frz_non, frz_str, frz_obj, startN, wipeD, List.map_cons, List.map_nil, List.length_cons, List.length_nil, Nat.zero_add, Nat.sub_self, Nat.reduceAdd, Nat.reduceSub, List.replicate_succ, List.replicate_zero, List.cons_append, List.nil_append, List.append_nil, List.getElem?_cons_zero, List.getElem?_cons_succ, List.set_cons_zero, List.set_cons_succ, Option.some.injEq, exists_eq_left', atI_0, atI_1, atI_2, atI_3, atI_4, atI_5, atI_6, atI_7, ixN_50, ixN_51, ixN_52, ixN_53, ixN_54, ixN_30, ixN_31, ixN_32, put_same, put_put, true_and, and_true, decide_true, decide_false, Bool.not_true, Bool.not_false, Bool.false_eq_true, if_true, if_false, decide_eq_true_eq, Bool.not_eq_true', decide_eq_false_iff_not, mem_one, ex_one, and_self, xd_mk, qAdd_i, qAdd_t, qAdd_s, qAdd_l, qMul_i, qMul_t, qMul_l, qSub_i, qDiv_i, qMod_i, qPow_i, qIAdd_i, qEq_i, qEq_b, qEq_s, qCmp_i, qIsN, qSl_t, qSl_l, qSl_s, qInt_i, qInt_b, qInt1, qMax, qMin, qList_t, qList_l, i_Disk, l_Disk, h_Disk_write, h_Disk_sync, h_Disk_blocks, h_Disk_synced, h_Disk_cut, h_Disk_drop, h_Disk_copy, g_Disk_rows, p_Disk_rows, k_Disk_rows, g_Disk_lasting, p_Disk_lasting, k_Disk_lasting]
      refine ⟨rfl, fun x r T1 hD ex er sT => ?_⟩
      simp only [dSeq, dAsg, dRet, dRetN, dDrop, dRaise, dBreak, dCont, dPar, dAug, dFor, dNext, dSetF, dAugF, dRaiseF, dIfS, dTest, dOp, dVar, dC, dCB, dCons, dNil, dCall, dAndV, dOrV, dNotV, dAndT, dOrT, dNotT, dIf, dTup, dLst, dLstV, dSl, dSlV, oSome, oNone, dNeg, gN, gT, gConsD, gNilD, gSubD, gFldD, dChain, dLc, dBM, isLst, iSeqD, iR1, iR2, iR3, dYes, isn_non, isn_bl, isn_int, isn_str, isn_ref, isn_tup, isn_rol, isn_obj, rdIx_tup, rdIx_rol, rdIx_put, rdSet, rdLen_tup, rdLen_rol, rdLen_str, rdLen_put, rdAppend, rdExt, rdPopAt, rdIsB, isBlV, rdStrI, rdIntS, dFrz, dFld, insOf_put, dMeth, lstOf_rol, lstOf_put, seqOf_tup, seqOf_rol, seqOf_put, frz_tup, frz_rol, frz_int, frz_bl, frz_non, frz_str, frz_obj, startN, wipeD, List.map_cons, List.map_nil, List.length_cons, List.length_nil, Nat.zero_add, Nat.sub_self, Nat.reduceAdd, Nat.reduceSub, List.replicate_succ, List.replicate_zero, List.cons_append, List.nil_append, List.append_nil, List.getElem?_cons_zero, List.getElem?_cons_succ, List.set_cons_zero, List.set_cons_succ, Option.some.injEq, exists_eq_left', atI_0, atI_1, atI_2, atI_3, atI_4, atI_5, atI_6, atI_7, ixN_50, ixN_51, ixN_52, ixN_53, ixN_54, ixN_30, ixN_31, ixN_32, put_same, put_put, true_and, and_true, decide_true, decide_false, Bool.not_true, Bool.not_false, Bool.false_eq_true, if_true, if_false, decide_eq_true_eq, Bool.not_eq_true', decide_eq_false_iff_not, mem_one, ex_one, and_self, xd_mk, qAdd_i, qAdd_t, qAdd_s, qAdd_l, qMul_i, qMul_t, qMul_l, qSub_i, qDiv_i, qMod_i, qPow_i, qIAdd_i, qEq_i, qEq_b, qEq_s, qCmp_i, qIsN, qSl_t, qSl_l, qSl_s, qInt_i, qInt_b, qInt1, qMax, qMin, qList_t, qList_l, i_Disk, l_Disk, h_Disk_write, h_Disk_sync, h_Disk_blocks, h_Disk_synced, h_Disk_cut, h_Disk_drop, h_Disk_copy, g_Disk_rows, p_Disk_rows, k_Disk_rows, g_Disk_lasting, p_Disk_lasting, k_Disk_lasting]
      refine ⟨by decide, fun b hb => hN _ _ ⟨x, r, b, ?_, _, rfl⟩⟩
      have hT1 := hT.subH sT
      have ne : ∀ {p : Addr}, T p ≠ none → p ≠ r := fun {p} h z => h (by rw [z]; exact er)
      have nb : ∀ {p : Addr}, T1 p ≠ none → b ≠ p := fun {p} h z => h (by rw [← z]; exact hb)
      obtain ⟨dx, ho⟩ := hD.obj
      refine ⟨hD.frame (put_ne (nb (by rw [ho]; simp)).symm) (put_ne (nb (by rw [hD.lst]; simp)).symm), put_same, hT1.putN hb, (fun w hw => by cases hw), nb (by rw [hD.lst]; simp), (ne hT.some_a.1).symm, (ne hT.some_a.2).symm, nb hT1.some_a.1, nb hT1.some_a.2, .inl rfl, Off.refl⟩
    clear hT
    obtain ⟨x, r, b, hL, y2, rfl⟩ := hM
    obtain ⟨dx, ho⟩ := hL.dk.obj
    -- nothing there yet
    refine cut_seq (fun ρ T => Led A T T a c x r b r [] [] 0 ∧ ρ = [some (.rol script), some (.ref a), y2, some (.ref x), some (.ref b), y5, y6, y7, y8]) (fun N hN => ?_) fun ρ T hM => ?_
    · simp only [dSeq, dAsg, dRet, dRetN, dDrop, dRaise, dBreak, dCont, dPar, dAug, dFor, dNext, dSetF, dAugF, dRaiseF, dIfS, dTest, dOp, dVar, dC, dCB, dCons, dNil, dCall, dAndV, dOrV, dNotV, dAndT, dOrT, dNotT, dIf, dTup, dLst, dLstV, dSl, dSlV, oSome, oNone, dNeg, gN, gT, gConsD, gNilD, gSubD, gFldD, dChain, dLc, dBM, isLst, iSeqD, iR1, iR2, iR3, dYes, isn_non, isn_bl, isn_int, isn_str, isn_ref, isn_tup, isn_rol, isn_obj, rdIx_tup, rdIx_rol, rdIx_put, rdSet, rdLen_tup, rdLen_rol, rdLen_str, rdLen_put, rdAppend, rdExt, rdPopAt, rdIsB, isBlV, rdStrI, rdIntS, dFrz, dFld, insOf_put, dMeth, lstOf_rol, lstOf_put, seqOf_tup, seqOf_rol, seqOf_put, frz_tup, frz_rol, frz_int, frz_bl, frz_non, frz_str, frz_obj, startN, wipeD, List.map_cons, List.map_nil, List.length_cons, List.length_nil, Nat.zero_add, Nat.sub_self, Nat.reduceAdd, Nat.reduceSub, List.replicate_succ, List.replicate_zero, List.cons_append, List.nil_append, List.append_nil, List.getElem?_cons_zero, List.getElem?_cons_succ, List.set_cons_zero, List.set_cons_succ, Option.some.injEq, exists_eq_left', atI_0, atI_1, atI_2, atI_3, atI_4, atI_5, atI_6, atI_7, ixN_50, ixN_51, ixN_52, ixN_53, ixN_54, ixN_30, ixN_31, ixN_32, put_same, put_put, true_and, and_true, decide_true, decide_false, Bool.not_true, Bool.not_false, Bool.false_eq_true, if_true, if_false, decide_eq_true_eq, Bool.not_eq_true', decide_eq_false_iff_not, mem_one, ex_one, and_self, xd_mk, qAdd_i, qAdd_t, qAdd_s, qAdd_l, qMul_i, qMul_t, qMul_l, qSub_i, qDiv_i, qMod_i, qPow_i, qIAdd_i, qEq_i, qEq_b, qEq_s, qCmp_i, qIsN, qSl_t, qSl_l, qSl_s, qInt_i, qInt_b, qInt1, qMax, qMin, qList_t, qList_l, i_Disk, l_Disk, h_Disk_write, h_Disk_sync, h_Disk_blocks, h_Disk_synced, h_Disk_cut, h_Disk_drop, h_Disk_copy, g_Disk_rows, p_Disk_rows, k_Disk_rows, g_Disk_lasting, p_Disk_lasting, k_Disk_lasting, insOf_ref ho]
      refine ⟨x, r, [], 0, rfl, hL.dk, fun p hp => ?_⟩
      have hL2 := hL.sub (Sub.new (m := .lst []) hp)
      obtain ⟨dx, ho2⟩ := hL2.dk.obj
      simp only [dSeq, dAsg, dRet, dRetN, dDrop, dRaise, dBreak, dCont, dPar, dAug, dFor, dNext, dSetF, dAugF, dRaiseF, dIfS, dTest, dOp, dVar, dC, dCB, dCons, dNil, dCall, dAndV, dOrV, dNotV, dAndT, dOrT, dNotT, dIf, dTup, dLst, dLstV, dSl, dSlV, oSome, oNone, dNeg, gN, gT, gConsD, gNilD, gSubD, gFldD, dChain, dLc, dBM, isLst, iSeqD, iR1, iR2, iR3, dYes, isn_non, isn_bl, isn_int, isn_str, isn_ref, isn_tup, isn_rol, isn_obj, rdIx_tup, rdIx_rol, rdIx_put, rdSet, rdLen_tup, rdLen_rol, rdLen_str, rdLen_put, rdAppend, rdExt, rdPopAt, rdIsB, isBlV, rdStrI, rdIntS, dFrz, dFld, insOf_put, dMeth, lstOf_rol, lstOf_put, seqOf_tup, seqOf_rol, seqOf_put, frz_tup, frz_rol, frz_int, frz_bl, frz_non, frz_str, frz_obj, startN, wipeD, List.map_cons, List.map_nil, List.length_cons, List.length_nil, Nat.zero_add, Nat.sub_self, Nat.reduceAdd, Nat.reduceSub, List.replicate_succ, List.replicate_zero, List.cons_append, List.nil_append, List.append_nil, List.getElem?_cons_zero, List.getElem?_cons_succ, List.set_cons_zero, List.set_cons_succ, Option.some.injEq, exists_eq_left', atI_0, atI_1, atI_2, atI_3, atI_4, atI_5, atI_6, atI_7, ixN_50, ixN_51, ixN_52, ixN_53, ixN_54, ixN_30, ixN_31, ixN_32, put_same, put_put, true_and, and_true, decide_true, decide_false, Bool.not_true, Bool.not_false, Bool.false_eq_true, if_true, if_false, decide_eq_true_eq, Bool.not_eq_true', decide_eq_false_iff_not, mem_one, ex_one, and_self, xd_mk, qAdd_i, qAdd_t, qAdd_s, qAdd_l, qMul_i, qMul_t, qMul_l, qSub_i, qDiv_i, qMod_i, qPow_i, qIAdd_i, qEq_i, qEq_b, qEq_s, qCmp_i, qIsN, qSl_t, qSl_l, qSl_s, qInt_i, qInt_b, qInt1, qMax, qMin, qList_t, qList_l, i_Disk, l_Disk, h_Disk_write, h_Disk_sync, h_Disk_blocks, h_Disk_synced, h_Disk_cut, h_Disk_drop, h_Disk_copy, g_Disk_rows, p_Disk_rows, k_Disk_rows, g_Disk_lasting, p_Disk_lasting, k_Disk_lasting]
      refine ⟨by decide, ?_⟩
      refine eqG_of (n := 2) (d := .rol []) (e := .rol []) (p := True) (val_ref put_same) rfl (fun y hy => by cases hy) (fun y hy => by cases hy) (by simp) ?_
      simp only [dSeq, dAsg, dRet, dRetN, dDrop, dRaise, dBreak, dCont, dPar, dAug, dFor, dNext, dSetF, dAugF, dRaiseF, dIfS, dTest, dOp, dVar, dC, dCB, dCons, dNil, dCall, dAndV, dOrV, dNotV, dAndT, dOrT, dNotT, dIf, dTup, dLst, dLstV, dSl, dSlV, oSome, oNone, dNeg, gN, gT, gConsD, gNilD, gSubD, gFldD, dChain, dLc, dBM, isLst, iSeqD, iR1, iR2, iR3, dYes, isn_non, isn_bl, isn_int, isn_str, isn_ref, isn_tup, isn_rol, isn_obj, rdIx_tup, rdIx_rol, rdIx_put, rdSet, rdLen_tup, rdLen_rol, rdLen_str, rdLen_put, rdAppend, rdExt, rdPopAt, rdIsB, isBlV, rdStrI, rdIntS, dFrz, dFld, insOf_put, dMeth, lstOf_rol, lstOf_put, seqOf_tup, seqOf_rol, seqOf_put, frz_tup, frz_rol, frz_int, frz_bl, frz_non, frz_str, frz_obj, startN, wipeD, List.map_cons, List.map_nil, List.length_cons, List.length_nil, Nat.zero_add, Nat.sub_self, Nat.reduceAdd, Nat.reduceSub, List.replicate_succ, List.replicate_zero, List.cons_append, List.nil_append, List.append_nil, List.getElem?_cons_zero, List.getElem?_cons_succ, List.set_cons_zero, List.set_cons_succ, Option.some.injEq, exists_eq_left', atI_0, atI_1, atI_2, atI_3, atI_4, atI_5, atI_6, atI_7, ixN_50, ixN_51, ixN_52, ixN_53, ixN_54, ixN_30, ixN_31, ixN_32, put_same, put_put, true_and, and_true, decide_true, decide_false, Bool.not_true, Bool.not_false, Bool.false_eq_true, if_true, if_false, decide_eq_true_eq, Bool.not_eq_true', decide_eq_false_iff_not, mem_one, ex_one, and_self, xd_mk, qAdd_i, qAdd_t, qAdd_s, qAdd_l, qMul_i, qMul_t, qMul_l, qSub_i, qDiv_i, qMod_i, qPow_i, qIAdd_i, qEq_i, qEq_b, qEq_s, qCmp_i, qIsN, qSl_t, qSl_l, qSl_s, qInt_i, qInt_b, qInt1, qMax, qMin, qList_t, qList_l, i_Disk, l_Disk, h_Disk_write, h_Disk_sync, h_Disk_blocks, h_Disk_synced, h_Disk_cut, h_Disk_drop, h_Disk_copy, g_Disk_rows, p_Disk_rows, k_Disk_rows, g_Disk_lasting, p_Disk_lasting, k_Disk_lasting, insOf_ref ho2]
      refine go_synced (X := X0) hL2 ?_
      simp only [dSeq, dAsg, dRet, dRetN, dDrop, dRaise, dBreak, dCont, dPar, dAug, dFor, dNext, dSetF, dAugF, dRaiseF, dIfS, dTest, dOp, dVar, dC, dCB, dCons, dNil, dCall, dAndV, dOrV, dNotV, dAndT, dOrT, dNotT, dIf, dTup, dLst, dLstV, dSl, dSlV, oSome, oNone, dNeg, gN, gT, gConsD, gNilD, gSubD, gFldD, dChain, dLc, dBM, isLst, iSeqD, iR1, iR2, iR3, dYes, isn_non, isn_bl, isn_int, isn_str, isn_ref, isn_tup, isn_rol, isn_obj, rdIx_tup, rdIx_rol, rdIx_put, rdSet, rdLen_tup, rdLen_rol, rdLen_str, rdLen_put, rdAppend, rdExt, rdPopAt, rdIsB, isBlV, rdStrI, rdIntS, dFrz, dFld, insOf_put, dMeth, lstOf_rol, lstOf_put, seqOf_tup, seqOf_rol, seqOf_put, frz_tup, frz_rol, frz_int, frz_bl, frz_non, frz_str, frz_obj, startN, wipeD, List.map_cons, List.map_nil, List.length_cons, List.length_nil, Nat.zero_add, Nat.sub_self, Nat.reduceAdd, Nat.reduceSub, List.replicate_succ, List.replicate_zero, List.cons_append, List.nil_append, List.append_nil, List.getElem?_cons_zero, List.getElem?_cons_succ, List.set_cons_zero, List.set_cons_succ, Option.some.injEq, exists_eq_left', atI_0, atI_1, atI_2, atI_3, atI_4, atI_5, atI_6, atI_7, ixN_50, ixN_51, ixN_52, ixN_53, ixN_54, ixN_30, ixN_31, ixN_32, put_same, put_put, true_and, and_true, decide_true, decide_false, Bool.not_true, Bool.not_false, Bool.false_eq_true, if_true, if_false, decide_eq_true_eq, Bool.not_eq_true', decide_eq_false_iff_not, mem_one, ex_one, and_self, xd_mk, qAdd_i, qAdd_t, qAdd_s, qAdd_l, qMul_i, qMul_t, qMul_l, qSub_i, qDiv_i, qMod_i, qPow_i, qIAdd_i, qEq_i, qEq_b, qEq_s, qCmp_i, qIsN, qSl_t, qSl_l, qSl_s, qInt_i, qInt_b, qInt1, qMax, qMin, qList_t, qList_l, i_Disk, l_Disk, h_Disk_write, h_Disk_sync, h_Disk_blocks, h_Disk_synced, h_Disk_cut, h_Disk_drop, h_Disk_copy, g_Disk_rows, p_Disk_rows, k_Disk_rows, g_Disk_lasting, p_Disk_lasting, k_Disk_lasting]
      exact hN _ _ ⟨hL2.self, rfl⟩
    obtain ⟨hL, rfl⟩ := hM
    -- led
    refine cut_seq (fun ρ T => ∃ r rows l, rows.length ≤ 20 ∧ Led A T T a c x r b r rows rows l ∧ ρ = [some (.rol script), some (.ref a), y2, some (.ref x), some (.ref b), some (.int (l : Nat)), y6, y7, y8]) (fun N hN => ?_) fun ρ T hM => ?_
    · simp only [dSeq, dAsg, dRet, dRetN, dDrop, dRaise, dBreak, dCont, dPar, dAug, dFor, dNext, dSetF, dAugF, dRaiseF, dIfS, dTest, dOp, dVar, dC, dCB, dCons, dNil, dCall, dAndV, dOrV, dNotV, dAndT, dOrT, dNotT, dIf, dTup, dLst, dLstV, dSl, dSlV, oSome, oNone, dNeg, gN, gT, gConsD, gNilD, gSubD, gFldD, dChain, dLc, dBM, isLst, iSeqD, iR1, iR2, iR3, dYes, isn_non, isn_bl, isn_int, isn_str, isn_ref, isn_tup, isn_rol, isn_obj, rdIx_tup, rdIx_rol, rdIx_put, rdSet, rdLen_tup, rdLen_rol, rdLen_str, rdLen_put, rdAppend, rdExt, rdPopAt, rdIsB, isBlV, rdStrI, rdIntS, dFrz, dFld, insOf_put, dMeth, lstOf_rol, lstOf_put, seqOf_tup, seqOf_rol, seqOf_put, frz_tup, frz_rol, frz_int, frz_bl, frz_non, frz_str, frz_obj, startN, wipeD, List.map_cons, List.map_nil, List.length_cons, List.length_nil, Nat.zero_add, Nat.sub_self, Nat.reduceAdd, Nat.reduceSub, List.replicate_succ, List.replicate_zero, List.cons_append, List.nil_append, List.append_nil, List.getElem?_cons_zero, List.getElem?_cons_succ, List.set_cons_zero, List.set_cons_succ, Option.some.injEq, exists_eq_left', atI_0, atI_1, atI_2, atI_3, atI_4, atI_5, atI_6, atI_7, ixN_50, ixN_51, ixN_52, ixN_53, ixN_54, ixN_30, ixN_31, ixN_32, put_same, put_put, true_and, and_true, decide_true, decide_false, Bool.not_true, Bool.not_false, Bool.false_eq_true, if_true, if_false, decide_eq_true_eq, Bool.not_eq_true', decide_eq_false_iff_not, mem_one, ex_one, and_self, xd_mk, qAdd_i, qAdd_t, qAdd_s, qAdd_l, qMul_i, qMul_t, qMul_l, qSub_i, qDiv_i, qMod_i, qPow_i, qIAdd_i, qEq_i, qEq_b, qEq_s, qCmp_i, qIsN, qSl_t, qSl_l, qSl_s, qInt_i, qInt_b, qInt1, qMax, qMin, qList_t, qList_l, i_Disk, l_Disk, h_Disk_write, h_Disk_sync, h_Disk_blocks, h_Disk_synced, h_Disk_cut, h_Disk_drop, h_Disk_copy, g_Disk_rows, p_Disk_rows, k_Disk_rows, g_Disk_lasting, p_Disk_lasting, k_Disk_lasting]
      (refine ask hL.hd (fun m T1 h1 a1 b1 => ?_) (by first | decide | omega) (by first | decide | omega); try simp only [dSeq, dAsg, dRet, dRetN, dDrop, dRaise, dBreak, dCont, dPar, dAug, dFor, dNext, dSetF, dAugF, dRaiseF, dIfS, dTest, dOp, dVar, dC, dCB, dCons, dNil, dCall, dAndV, dOrV, dNotV, dAndT, dOrT, dNotT, dIf, dTup, dLst, dLstV, dSl, dSlV, oSome, oNone, dNeg, gN, gT, gConsD, gNilD, gSubD, gFldD, dChain, dLc, dBM, isLst, iSeqD, iR1, iR2, iR3, dYes, isn_non, isn_bl, isn_int, isn_str, isn_ref, isn_tup, isn_rol, isn_obj, rdIx_tup, rdIx_rol, rdIx_put, rdSet, rdLen_tup, rdLen_rol, rdLen_str, rdLen_put, rdAppend, rdExt, rdPopAt, rdIsB, isBlV, rdStrI, rdIntS, dFrz, dFld, insOf_put, dMeth, lstOf_rol, lstOf_put, seqOf_tup, seqOf_rol, seqOf_put, frz_tup, frz_rol, frz_int, frz_bl, frz_non, frz_str, frz_obj, startN, wipeD, List.map_cons, List.map_nil, List.length_cons, List.length_nil, Nat.zero_add, Nat.sub_self, Nat.reduceAdd, Nat.reduceSub, List.replicate_succ, List.replicate_zero, List.cons_append, List.nil_append, List.append_nil, List.getElem?_cons_zero, List.getElem?_cons_succ, List.set_cons_zero, List.set_cons_succ, Option.some.injEq, exists_eq_left', atI_0, atI_1, atI_2, atI_3, atI_4, atI_5, atI_6, atI_7, ixN_50, ixN_51, ixN_52, ixN_53, ixN_54, ixN_30, ixN_31, ixN_32, put_same, put_put, true_and, and_true, decide_true, decide_false, Bool.not_true, Bool.not_false, Bool.false_eq_true, if_true, if_false, decide_eq_true_eq, Bool.not_eq_true', decide_eq_false_iff_not, mem_one, ex_one, and_self, xd_mk, qAdd_i, qAdd_t, qAdd_s, qAdd_l, qMul_i, qMul_t, qMul_l, qSub_i, qDiv_i, qMod_i, qPow_i, qIAdd_i, qEq_i, qEq_b, qEq_s, qCmp_i, qIsN, qSl_t, qSl_l, qSl_s, qInt_i, qInt_b, qInt1, qMax, qMin, qList_t, qList_l, i_Disk, l_Disk, h_Disk_write, h_Disk_sync, h_Disk_blocks, h_Disk_synced, h_Disk_cut, h_Disk_drop, h_Disk_copy, g_Disk_rows, p_Disk_rows, k_Disk_rows, g_Disk_lasting, p_Disk_lasting, k_Disk_lasting])
      obtain ⟨n, rfl⟩ := Int.eq_ofNat_of_zero_le a1
      refine ⟨a, c, x, r, b, [], 0, n, rfl, (hL.draw h1).self, by omega, by decide, fun T2 r2 rows l hL2 hl => hN _ _ ⟨r2, rows, l, ?_, hL2.self, rfl⟩⟩
      have hl : rows.length ≤ 0 + n := hl
      omega
    clear hL
    obtain ⟨r, rows, l, hrl, hL, rfl⟩ := hM
    refine cut_seq (fun ρ U => U = T ∧ ρ = [some (.rol script), some (.ref a), y2, some (.ref x), some (.ref b), some (.int (l : Nat)), y6, y7, y8]) (fun N hN => ?_) fun ρ T2 hM => ?_
    · simp only [dSeq, dAsg, dRet, dRetN, dDrop, dRaise, dBreak, dCont, dPar, dAug, dFor, dNext, dSetF, dAugF, dRaiseF, dIfS, dTest, dOp, dVar, dC, dCB, dCons, dNil, dCall, dAndV, dOrV, dNotV, dAndT, dOrT, dNotT, dIf, dTup, dLst, dLstV, dSl, dSlV, oSome, oNone, dNeg, gN, gT, gConsD, gNilD, gSubD, gFldD, dChain, dLc, dBM, isLst, iSeqD, iR1, iR2, iR3, dYes, isn_non, isn_bl, isn_int, isn_str, isn_ref, isn_tup, isn_rol, isn_obj, rdIx_tup, rdIx_rol, rdIx_put, rdSet, rdLen_tup, rdLen_rol, rdLen_str, rdLen_put, rdAppend, rdExt, rdPopAt, rdIsB, isBlV, rdStrI, rdIntS, dFrz, dFld, insOf_put, dMeth, lstOf_rol, lstOf_put, seqOf_tup, seqOf_rol, seqOf_put, frz_tup, frz_rol, frz_int, frz_bl, frz_non, frz_str, frz_obj, startN, wipeD, List.map_cons, List.map_nil, List.length_cons, List.length_nil, Nat.zero_add, Nat.sub_self, Nat.reduceAdd, Nat.reduceSub, List.replicate_succ, List.replicate_zero, List.cons_append, List.nil_append, List.append_nil, List.getElem?_cons_zero, List.getElem?_cons_succ, List.set_cons_zero, List.set_cons_succ, Option.some.injEq, exists_eq_left', atI_0, atI_1, atI_2, atI_3, atI_4, atI_5, atI_6, atI_7, ixN_50, ixN_51, ixN_52, ixN_53, ixN_54, ixN_30, ixN_31, ixN_32, put_same, put_put, true_and, and_true, decide_true, decide_false, Bool.not_true, Bool.not_false, Bool.false_eq_true, if_true, if_false, decide_eq_true_eq, Bool.not_eq_true', decide_eq_false_iff_not, mem_one, ex_one, and_self, xd_mk, qAdd_i, qAdd_t, qAdd_s, qAdd_l, qMul_i, qMul_t, qMul_l, qSub_i, qDiv_i, qMod_i, qPow_i, qIAdd_i, qEq_i, qEq_b, qEq_s, qCmp_i, qIsN, qSl_t, qSl_l, qSl_s, qInt_i, qInt_b, qInt1, qMax, qMin, qList_t, qList_l, i_Disk, l_Disk, h_Disk_write, h_Disk_sync, h_Disk_blocks, h_Disk_synced, h_Disk_cut, h_Disk_drop, h_Disk_copy, g_Disk_rows, p_Disk_rows, k_Disk_rows, g_Disk_lasting, p_Disk_lasting, k_Disk_lasting]
      exact hN _ _ ⟨rfl, rfl⟩
    obtain ⟨rfl, rfl⟩ := hM
    -- a copy
    refine cut_seq (fun ρ T => ∃ y s d, Led A T T a c x r b r rows rows l ∧ Led A T T a c y s d s rows rows l ∧ Ap x r b y s d ∧ ρ = [some (.rol script), some (.ref a), y2, some (.ref x), some (.ref b), some (.int (l : Nat)), some (.ref y), some (.ref d), y8]) (fun N hN => ?_) fun ρ T hM => ?_
    · obtain ⟨dx, ho⟩ := hL.dk.obj
      simp only [dSeq, dAsg, dRet, dRetN, dDrop, dRaise, dBreak, dCont, dPar, dAug, dFor, dNext, dSetF, dAugF, dRaiseF, dIfS, dTest, dOp, dVar, dC, dCB, dCons, dNil, dCall, dAndV, dOrV, dNotV, dAndT, dOrT, dNotT, dIf, dTup, dLst, dLstV, dSl, dSlV, oSome, oNone, dNeg, gN, gT, gConsD, gNilD, gSubD, gFldD, dChain, dLc, dBM, isLst, iSeqD, iR1, iR2, iR3, dYes, isn_non, isn_bl, isn_int, isn_str, isn_ref, isn_tup, isn_rol, isn_obj, rdIx_tup, rdIx_rol, rdIx_put, rdSet, rdLen_tup, rdLen_rol, rdLen_str, rdLen_put, rdAppend, rdExt, rdPopAt, rdIsB, isBlV, rdStrI, rdIntS, dFrz, dFld, insOf_put, dMeth, lstOf_rol, lstOf_put, seqOf_tup, seqOf_rol, seqOf_put, frz_tup, frz_rol, frz_int, frz_bl, frz_non, frz_str, frz_obj, startN, wipeD, List.map_cons, List.map_nil, List.length_cons, List.length_nil, Nat.zero_add, Nat.sub_self, Nat.reduceAdd, Nat.reduceSub, List.replicate_succ, List.replicate_zero, List.cons_append, List.nil_append, List.append_nil, List.getElem?_cons_zero, List.getElem?_cons_succ, List.set_cons_zero, List.set_cons_succ, Option.some.injEq, exists_eq_left', atI_0, atI_1, atI_2, atI_3, atI_4, atI_5, atI_6, atI_7, ixN_50, ixN_51, ixN_52, ixN_53, ixN_54, ixN_30, ixN_31, ixN_32, put_same, put_put, true_and, and_true, decide_true, decide_false, Bool.not_true, Bool.not_false, Bool.false_eq_true, if_true, if_false, decide_eq_true_eq, Bool.not_eq_true', decide_eq_false_iff_not, mem_one, ex_one, and_self, xd_mk, qAdd_i, qAdd_t, qAdd_s, qAdd_l, qMul_i, qMul_t, qMul_l, qSub_i, qDiv_i, qMod_i, qPow_i, qIAdd_i, qEq_i, qEq_b, qEq_s, qCmp_i, qIsN, qSl_t, qSl_l, qSl_s, qInt_i, qInt_b, qInt1, qMax, qMin, qList_t, qList_l, i_Disk, l_Disk, h_Disk_write, h_Disk_sync, h_Disk_blocks, h_Disk_synced, h_Disk_cut, h_Disk_drop, h_Disk_copy, g_Disk_rows, p_Disk_rows, k_Disk_rows, g_Disk_lasting, p_Disk_lasting, k_Disk_lasting, insOf_ref ho]
      refine ⟨x, r, rows, l, rfl, hL.dk, fun y s T3 hD ey es sT => ?_⟩
      have hL3 := hL.sub sT
      unfold VD.rdList
      dsimp only
      rw [seqOf_ref hL3.bl]
      intro d hd
      obtain ⟨tx, tr, tb_⟩ := hL.there
      obtain ⟨tx3, tr3, tb3⟩ := hL3.there
      have hT1 := hL3.hd
      have ne : ∀ {p q : Addr}, T2 p ≠ none → T2 q = none → p ≠ q := fun {p q} h e z => h (by rw [z]; exact e)
      have nb : ∀ {p : Addr}, T3 p ≠ none → d ≠ p := fun {p} h z => h (by rw [← z]; exact hd)
      obtain ⟨dy, hoy⟩ := hD.obj
      have n1 := nb (p := y) (by rw [hoy]; simp)
      have n2 := nb (p := s) (by rw [hD.lst]; simp)
      refine hN _ _ ⟨y, s, d, (hL3.sub (Sub.new hd)).self, ⟨hD.frame (put_ne n1.symm) (put_ne n2.symm), put_same, hT1.putN hd, hL.ok, n2, (ne hL.hd.some_a.1 es).symm, (ne hL.hd.some_a.2 es).symm, nb hT1.some_a.1, nb hT1.some_a.2, .inl rfl, Off.refl⟩, ⟨ne tx ey, ne tx es, (nb tx3).symm, ne tr ey, ne tr es, (nb tr3).symm, ne tb_ ey, ne tb_ es, (nb tb3).symm⟩, rfl⟩
    clear hL
    obtain ⟨y, s, d, hL, hP, hap, rfl⟩ := hM
    -- the copy is led
    refine cut_seq (fun ρ T => ∃ s rows2 l2, Led A T T a c x r b r rows rows l ∧ Led A T T a c y s d s rows2 rows2 l2 ∧ Ap x r b y s d ∧ ρ = [some (.rol script), some (.ref a), y2, some (.ref x), some (.ref b), some (.int (l : Nat)), some (.ref y), some (.ref d), some (.int (l2 : Nat))]) (fun N hN => ?_) fun ρ T hM => ?_
    · simp only [dSeq, dAsg, dRet, dRetN, dDrop, dRaise, dBreak, dCont, dPar, dAug, dFor, dNext, dSetF, dAugF, dRaiseF, dIfS, dTest, dOp, dVar, dC, dCB, dCons, dNil, dCall, dAndV, dOrV, dNotV, dAndT, dOrT, dNotT, dIf, dTup, dLst, dLstV, dSl, dSlV, oSome, oNone, dNeg, gN, gT, gConsD, gNilD, gSubD, gFldD, dChain, dLc, dBM, isLst, iSeqD, iR1, iR2, iR3, dYes, isn_non, isn_bl, isn_int, isn_str, isn_ref, isn_tup, isn_rol, isn_obj, rdIx_tup, rdIx_rol, rdIx_put, rdSet, rdLen_tup, rdLen_rol, rdLen_str, rdLen_put, rdAppend, rdExt, rdPopAt, rdIsB, isBlV, rdStrI, rdIntS, dFrz, dFld, insOf_put, dMeth, lstOf_rol, lstOf_put, seqOf_tup, seqOf_rol, seqOf_put, frz_tup, frz_rol, frz_int, frz_bl, frz_non, frz_str, frz_obj, startN, wipeD, List.map_cons, List.map_nil, List.length_cons, List.length_nil, Nat.zero_add, Nat.sub_self, Nat.reduceAdd, Nat.reduceSub, List.replicate_succ, List.replicate_zero, List.cons_append, List.nil_append, List.append_nil, List.getElem?_cons_zero, List.getElem?_cons_succ, List.set_cons_zero, List.set_cons_succ, Option.some.injEq, exists_eq_left', atI_0, atI_1, atI_2, atI_3, atI_4, atI_5, atI_6, atI_7, ixN_50, ixN_51, ixN_52, ixN_53, ixN_54, ixN_30, ixN_31, ixN_32, put_same, put_put, true_and, and_true, decide_true, decide_false, Bool.not_true, Bool.not_false, Bool.false_eq_true, if_true, if_false, decide_eq_true_eq, Bool.not_eq_true', decide_eq_false_iff_not, mem_one, ex_one, and_self, xd_mk, qAdd_i, qAdd_t, qAdd_s, qAdd_l, qMul_i, qMul_t, qMul_l, qSub_i, qDiv_i, qMod_i, qPow_i, qIAdd_i, qEq_i, qEq_b, qEq_s, qCmp_i, qIsN, qSl_t, qSl_l, qSl_s, qInt_i, qInt_b, qInt1, qMax, qMin, qList_t, qList_l, i_Disk, l_Disk, h_Disk_write, h_Disk_sync, h_Disk_blocks, h_Disk_synced, h_Disk_cut, h_Disk_drop, h_Disk_copy, g_Disk_rows, p_Disk_rows, k_Disk_rows, g_Disk_lasting, p_Disk_lasting, k_Disk_lasting]
      (refine ask hL.hd (fun m T1 h1 a1 b1 => ?_) (by first | decide | omega) (by first | decide | omega); try simp only [dSeq, dAsg, dRet, dRetN, dDrop, dRaise, dBreak, dCont, dPar, dAug, dFor, dNext, dSetF, dAugF, dRaiseF, dIfS, dTest, dOp, dVar, dC, dCB, dCons, dNil, dCall, dAndV, dOrV, dNotV, dAndT, dOrT, dNotT, dIf, dTup, dLst, dLstV, dSl, dSlV, oSome, oNone, dNeg, gN, gT, gConsD, gNilD, gSubD, gFldD, dChain, dLc, dBM, isLst, iSeqD, iR1, iR2, iR3, dYes, isn_non, isn_bl, isn_int, isn_str, isn_ref, isn_tup, isn_rol, isn_obj, rdIx_tup, rdIx_rol, rdIx_put, rdSet, rdLen_tup, rdLen_rol, rdLen_str, rdLen_put, rdAppend, rdExt, rdPopAt, rdIsB, isBlV, rdStrI, rdIntS, dFrz, dFld, insOf_put, dMeth, lstOf_rol, lstOf_put, seqOf_tup, seqOf_rol, seqOf_put, frz_tup, frz_rol, frz_int, frz_bl, frz_non, frz_str, frz_obj, startN, wipeD, List.map_cons, List.map_nil, List.length_cons, List.length_nil, Nat.zero_add, Nat.sub_self, Nat.reduceAdd, Nat.reduceSub, List.replicate_succ, List.replicate_zero, List.cons_append, List.nil_append, List.append_nil, List.getElem?_cons_zero, List.getElem?_cons_succ, List.set_cons_zero, List.set_cons_succ, Option.some.injEq, exists_eq_left', atI_0, atI_1, atI_2, atI_3, atI_4, atI_5, atI_6, atI_7, ixN_50, ixN_51, ixN_52, ixN_53, ixN_54, ixN_30, ixN_31, ixN_32, put_same, put_put, true_and, and_true, decide_true, decide_false, Bool.not_true, Bool.not_false, Bool.false_eq_true, if_true, if_false, decide_eq_true_eq, Bool.not_eq_true', decide_eq_false_iff_not, mem_one, ex_one, and_self, xd_mk, qAdd_i, qAdd_t, qAdd_s, qAdd_l, qMul_i, qMul_t, qMul_l, qSub_i, qDiv_i, qMod_i, qPow_i, qIAdd_i, qEq_i, qEq_b, qEq_s, qCmp_i, qIsN, qSl_t, qSl_l, qSl_s, qInt_i, qInt_b, qInt1, qMax, qMin, qList_t, qList_l, i_Disk, l_Disk, h_Disk_write, h_Disk_sync, h_Disk_blocks, h_Disk_synced, h_Disk_cut, h_Disk_drop, h_Disk_copy, g_Disk_rows, p_Disk_rows, k_Disk_rows, g_Disk_lasting, p_Disk_lasting, k_Disk_lasting])
      obtain ⟨n, rfl⟩ := Int.eq_ofNat_of_zero_le a1
      have hL1 := (hL.draw h1).self
      have hP1 := (hP.draw h1).self
      refine ⟨a, c, y, s, d, rows, l, n, rfl, hP1, by omega, by omega, fun T2 s2 rows2 l2 hP2 hl => ?_⟩
      obtain ⟨hL2, ap2⟩ := hL1.other hP2 hap
      exact hN _ _ ⟨s2, rows2, l2, hL2, hP2.self, ap2, rfl⟩
    clear hL hP hap
    obtain ⟨s, rows2, l2, hL, hP, hap, rfl⟩ := hM
    -- the first is as it was
    refine cut_seq (fun ρ T => Led A T T a c x r b r rows rows l ∧ Led A T T a c y s d s rows2 rows2 l2 ∧ ρ = [some (.rol script), some (.ref a), y2, some (.ref x), some (.ref b), some (.int (l : Nat)), some (.ref y), some (.ref d), some (.int (l2 : Nat))]) (fun N hN => ?_) fun ρ T hM => ?_
    · obtain ⟨dx, ho⟩ := hL.dk.obj
      simp only [dSeq, dAsg, dRet, dRetN, dDrop, dRaise, dBreak, dCont, dPar, dAug, dFor, dNext, dSetF, dAugF, dRaiseF, dIfS, dTest, dOp, dVar, dC, dCB, dCons, dNil, dCall, dAndV, dOrV, dNotV, dAndT, dOrT, dNotT, dIf, dTup, dLst, dLstV, dSl, dSlV, oSome, oNone, dNeg, gN, gT, gConsD, gNilD, gSubD, gFldD, dChain, dLc, dBM, isLst, iSeqD, iR1, iR2, iR3, dYes, isn_non, isn_bl, isn_int, isn_str, isn_ref, isn_tup, isn_rol, isn_obj, rdIx_tup, rdIx_rol, rdIx_put, rdSet, rdLen_tup, rdLen_rol, rdLen_str, rdLen_put, rdAppend, rdExt, rdPopAt, rdIsB, isBlV, rdStrI, rdIntS, dFrz, dFld, insOf_put, dMeth, lstOf_rol, lstOf_put, seqOf_tup, seqOf_rol, seqOf_put, frz_tup, frz_rol, frz_int, frz_bl, frz_non, frz_str, frz_obj, startN, wipeD, List.map_cons, List.map_nil, List.length_cons, List.length_nil, Nat.zero_add, Nat.sub_self, Nat.reduceAdd, Nat.reduceSub, List.replicate_succ, List.replicate_zero, List.cons_append, List.nil_append, List.append_nil, List.getElem?_cons_zero, List.getElem?_cons_succ, List.set_cons_zero, List.set_cons_succ, Option.some.injEq, exists_eq_left', atI_0, atI_1, atI_2, atI_3, atI_4, atI_5, atI_6, atI_7, ixN_50, ixN_51, ixN_52, ixN_53, ixN_54, ixN_30, ixN_31, ixN_32, put_same, put_put, true_and, and_true, decide_true, decide_false, Bool.not_true, Bool.not_false, Bool.false_eq_true, if_true, if_false, decide_eq_true_eq, Bool.not_eq_true', decide_eq_false_iff_not, mem_one, ex_one, and_self, xd_mk, qAdd_i, qAdd_t, qAdd_s, qAdd_l, qMul_i, qMul_t, qMul_l, qSub_i, qDiv_i, qMod_i, qPow_i, qIAdd_i, qEq_i, qEq_b, qEq_s, qCmp_i, qIsN, qSl_t, qSl_l, qSl_s, qInt_i, qInt_b, qInt1, qMax, qMin, qList_t, qList_l, i_Disk, l_Disk, h_Disk_write, h_Disk_sync, h_Disk_blocks, h_Disk_synced, h_Disk_cut, h_Disk_drop, h_Disk_copy, g_Disk_rows, p_Disk_rows, k_Disk_rows, g_Disk_lasting, p_Disk_lasting, k_Disk_lasting, insOf_ref ho]
      refine go_blocks (X := X0) hL fun U sU => ?_
      have hL2 := (hL.sub sU).self
      obtain ⟨dx, ho2⟩ := hL2.dk.obj
      simp only [dSeq, dAsg, dRet, dRetN, dDrop, dRaise, dBreak, dCont, dPar, dAug, dFor, dNext, dSetF, dAugF, dRaiseF, dIfS, dTest, dOp, dVar, dC, dCB, dCons, dNil, dCall, dAndV, dOrV, dNotV, dAndT, dOrT, dNotT, dIf, dTup, dLst, dLstV, dSl, dSlV, oSome, oNone, dNeg, gN, gT, gConsD, gNilD, gSubD, gFldD, dChain, dLc, dBM, isLst, iSeqD, iR1, iR2, iR3, dYes, isn_non, isn_bl, isn_int, isn_str, isn_ref, isn_tup, isn_rol, isn_obj, rdIx_tup, rdIx_rol, rdIx_put, rdSet, rdLen_tup, rdLen_rol, rdLen_str, rdLen_put, rdAppend, rdExt, rdPopAt, rdIsB, isBlV, rdStrI, rdIntS, dFrz, dFld, insOf_put, dMeth, lstOf_rol, lstOf_put, seqOf_tup, seqOf_rol, seqOf_put, frz_tup, frz_rol, frz_int, frz_bl, frz_non, frz_str, frz_obj, startN, wipeD, List.map_cons, List.map_nil, List.length_cons, List.length_nil, Nat.zero_add, Nat.sub_self, Nat.reduceAdd, Nat.reduceSub, List.replicate_succ, List.replicate_zero, List.cons_append, List.nil_append, List.append_nil, List.getElem?_cons_zero, List.getElem?_cons_succ, List.set_cons_zero, List.set_cons_succ, Option.some.injEq, exists_eq_left', atI_0, atI_1, atI_2, atI_3, atI_4, atI_5, atI_6, atI_7, ixN_50, ixN_51, ixN_52, ixN_53, ixN_54, ixN_30, ixN_31, ixN_32, put_same, put_put, true_and, and_true, decide_true, decide_false, Bool.not_true, Bool.not_false, Bool.false_eq_true, if_true, if_false, decide_eq_true_eq, Bool.not_eq_true', decide_eq_false_iff_not, mem_one, ex_one, and_self, xd_mk, qAdd_i, qAdd_t, qAdd_s, qAdd_l, qMul_i, qMul_t, qMul_l, qSub_i, qDiv_i, qMod_i, qPow_i, qIAdd_i, qEq_i, qEq_b, qEq_s, qCmp_i, qIsN, qSl_t, qSl_l, qSl_s, qInt_i, qInt_b, qInt1, qMax, qMin, qList_t, qList_l, i_Disk, l_Disk, h_Disk_write, h_Disk_sync, h_Disk_blocks, h_Disk_synced, h_Disk_cut, h_Disk_drop, h_Disk_copy, g_Disk_rows, p_Disk_rows, k_Disk_rows, g_Disk_lasting, p_Disk_lasting, k_Disk_lasting, insOf_ref ho2]
      refine go_synced (X := X0) hL2 ?_
      simp only [dSeq, dAsg, dRet, dRetN, dDrop, dRaise, dBreak, dCont, dPar, dAug, dFor, dNext, dSetF, dAugF, dRaiseF, dIfS, dTest, dOp, dVar, dC, dCB, dCons, dNil, dCall, dAndV, dOrV, dNotV, dAndT, dOrT, dNotT, dIf, dTup, dLst, dLstV, dSl, dSlV, oSome, oNone, dNeg, gN, gT, gConsD, gNilD, gSubD, gFldD, dChain, dLc, dBM, isLst, iSeqD, iR1, iR2, iR3, dYes, isn_non, isn_bl, isn_int, isn_str, isn_ref, isn_tup, isn_rol, isn_obj, rdIx_tup, rdIx_rol, rdIx_put, rdSet, rdLen_tup, rdLen_rol, rdLen_str, rdLen_put, rdAppend, rdExt, rdPopAt, rdIsB, isBlV, rdStrI, rdIntS, dFrz, dFld, insOf_put, dMeth, lstOf_rol, lstOf_put, seqOf_tup, seqOf_rol, seqOf_put, frz_tup, frz_rol, frz_int, frz_bl, frz_non, frz_str, frz_obj, startN, wipeD, List.map_cons, List.map_nil, List.length_cons, List.length_nil, Nat.zero_add, Nat.sub_self, Nat.reduceAdd, Nat.reduceSub, List.replicate_succ, List.replicate_zero, List.cons_append, List.nil_append, List.append_nil, List.getElem?_cons_zero, List.getElem?_cons_succ, List.set_cons_zero, List.set_cons_succ, Option.some.injEq, exists_eq_left', atI_0, atI_1, atI_2, atI_3, atI_4, atI_5, atI_6, atI_7, ixN_50, ixN_51, ixN_52, ixN_53, ixN_54, ixN_30, ixN_31, ixN_32, put_same, put_put, true_and, and_true, decide_true, decide_false, Bool.not_true, Bool.not_false, Bool.false_eq_true, if_true, if_false, decide_eq_true_eq, Bool.not_eq_true', decide_eq_false_iff_not, mem_one, ex_one, and_self, xd_mk, qAdd_i, qAdd_t, qAdd_s, qAdd_l, qMul_i, qMul_t, qMul_l, qSub_i, qDiv_i, qMod_i, qPow_i, qIAdd_i, qEq_i, qEq_b, qEq_s, qCmp_i, qIsN, qSl_t, qSl_l, qSl_s, qInt_i, qInt_b, qInt1, qMax, qMin, qList_t, qList_l, i_Disk, l_Disk, h_Disk_write, h_Disk_sync, h_Disk_blocks, h_Disk_synced, h_Disk_cut, h_Disk_drop, h_Disk_copy, g_Disk_rows, p_Disk_rows, k_Disk_rows, g_Disk_lasting, p_Disk_lasting, k_Disk_lasting]
      exact hN _ _ ⟨hL2, (hP.sub sU).self, rfl⟩
    clear hL hP
    obtain ⟨hL, hP, rfl⟩ := hM
    -- the first is led
    refine cut_seq (fun ρ T => ∃ r rows l5, Led A T T a c x r b r rows rows l5 ∧ Led A T T a c y s d s rows2 rows2 l2 ∧ ρ = [some (.rol script), some (.ref a), y2, some (.ref x), some (.ref b), some (.int (l : Nat)), some (.ref y), some (.ref d), some (.int (l2 : Nat))]) (fun N hN => ?_) fun ρ T hM => ?_
    · simp only [dSeq, dAsg, dRet, dRetN, dDrop, dRaise, dBreak, dCont, dPar, dAug, dFor, dNext, dSetF, dAugF, dRaiseF, dIfS, dTest, dOp, dVar, dC, dCB, dCons, dNil, dCall, dAndV, dOrV, dNotV, dAndT, dOrT, dNotT, dIf, dTup, dLst, dLstV, dSl, dSlV, oSome, oNone, dNeg, gN, gT, gConsD, gNilD, gSubD, gFldD, dChain, dLc, dBM, isLst, iSeqD, iR1, iR2, iR3, dYes, isn_non, isn_bl, isn_int, isn_str, isn_ref, isn_tup, isn_rol, isn_obj, rdIx_tup, rdIx_rol, rdIx_put, rdSet, rdLen_tup, rdLen_rol, rdLen_str, rdLen_put, rdAppend, rdExt, rdPopAt, rdIsB, isBlV, rdStrI, rdIntS, dFrz, dFld, insOf_put, dMeth, lstOf_rol, lstOf_put, seqOf_tup, seqOf_rol, seqOf_put, frz_tup, frz_rol, frz_int, frz_bl, frz_non, frz_str, frz_obj, startN, wipeD, List.map_cons, List.map_nil, List.length_cons, List.length_nil, Nat.zero_add, Nat.sub_self, Nat.reduceAdd, Nat.reduceSub, List.replicate_succ, List.replicate_zero, List.cons_append, List.nil_append, List.append_nil, List.getElem?_cons_zero, List.getElem?_cons_succ, List.set_cons_zero, List.set_cons_succ, Option.some.injEq, exists_eq_left', atI_0, atI_1, atI_2, atI_3, atI_4, atI_5, atI_6, atI_7, ixN_50, ixN_51, ixN_52, ixN_53, ixN_54, ixN_30, ixN_31, ixN_32, put_same, put_put, true_and, and_true, decide_true, decide_false, Bool.not_true, Bool.not_false, Bool.false_eq_true, if_true, if_false, decide_eq_true_eq, Bool.not_eq_true', decide_eq_false_iff_not, mem_one, ex_one, and_self, xd_mk, qAdd_i, qAdd_t, qAdd_s, qAdd_l, qMul_i, qMul_t, qMul_l, qSub_i, qDiv_i, qMod_i, qPow_i, qIAdd_i, qEq_i, qEq_b, qEq_s, qCmp_i, qIsN, qSl_t, qSl_l, qSl_s, qInt_i, qInt_b, qInt1, qMax, qMin, qList_t, qList_l, i_Disk, l_Disk, h_Disk_write, h_Disk_sync, h_Disk_blocks, h_Disk_synced, h_Disk_cut, h_Disk_drop, h_Disk_copy, g_Disk_rows, p_Disk_rows, k_Disk_rows, g_Disk_lasting, p_Disk_lasting, k_Disk_lasting]
      (refine ask hL.hd (fun m T1 h1 a1 b1 => ?_) (by first | decide | omega) (by first | decide | omega); try simp only [dSeq, dAsg, dRet, dRetN, dDrop, dRaise, dBreak, dCont, dPar, dAug, dFor, dNext, dSetF, dAugF, dRaiseF, dIfS, dTest, dOp, dVar, dC, dCB, dCons, dNil, dCall, dAndV, dOrV, dNotV, dAndT, dOrT, dNotT, dIf, dTup, dLst, dLstV, dSl, dSlV, oSome, oNone, dNeg, gN, gT, gConsD, gNilD, gSubD, gFldD, dChain, dLc, dBM, isLst, iSeqD, iR1, iR2, iR3, dYes, isn_non, isn_bl, isn_int, isn_str, isn_ref, isn_tup, isn_rol, isn_obj, rdIx_tup, rdIx_rol, rdIx_put, rdSet, rdLen_tup, rdLen_rol, rdLen_str, rdLen_put, rdAppend, rdExt, rdPopAt, rdIsB, isBlV, rdStrI, rdIntS, dFrz, dFld, insOf_put, dMeth, lstOf_rol, lstOf_put, seqOf_tup, seqOf_rol, seqOf_put, frz_tup, frz_rol, frz_int, frz_bl, frz_non, frz_str, frz_obj, startN, wipeD, List.map_cons, List.map_nil, List.length_cons, List.length_nil, Nat.zero_add, Nat.sub_self, Nat.reduceAdd, Nat.reduceSub, List.replicate_succ, List.replicate_zero, List.cons_append, List.nil_append, List.append_nil, List.getElem?_cons_zero, List.getElem?_cons_succ, List.set_cons_zero, List.set_cons_succ, Option.some.injEq, exists_eq_left', atI_0, atI_1, atI_2, atI_3, atI_4, atI_5, atI_6, atI_7, ixN_50, ixN_51, ixN_52, ixN_53, ixN_54, ixN_30, ixN_31, ixN_32, put_same, put_put, true_and, and_true, decide_true, decide_false, Bool.not_true, Bool.not_false, Bool.false_eq_true, if_true, if_false, decide_eq_true_eq, Bool.not_eq_true', decide_eq_false_iff_not, mem_one, ex_one, and_self, xd_mk, qAdd_i, qAdd_t, qAdd_s, qAdd_l, qMul_i, qMul_t, qMul_l, qSub_i, qDiv_i, qMod_i, qPow_i, qIAdd_i, qEq_i, qEq_b, qEq_s, qCmp_i, qIsN, qSl_t, qSl_l, qSl_s, qInt_i, qInt_b, qInt1, qMax, qMin, qList_t, qList_l, i_Disk, l_Disk, h_Disk_write, h_Disk_sync, h_Disk_blocks, h_Disk_synced, h_Disk_cut, h_Disk_drop, h_Disk_copy, g_Disk_rows, p_Disk_rows, k_Disk_rows, g_Disk_lasting, p_Disk_lasting, k_Disk_lasting])
      obtain ⟨n, rfl⟩ := Int.eq_ofNat_of_zero_le a1
      have hL1 := (hL.draw h1).self
      have hP1 := (hP.draw h1).self
      refine ⟨a, c, x, r, b, rows, l, n, rfl, hL1, by omega, by omega, fun T2 r2 rows3 l3 hL2 hl => ?_⟩
      obtain ⟨hP2, ap2⟩ := hP1.other hL2 hap.symm
      obtain ⟨dy, hoy⟩ := hP2.dk.obj
      simp only [dSeq, dAsg, dRet, dRetN, dDrop, dRaise, dBreak, dCont, dPar, dAug, dFor, dNext, dSetF, dAugF, dRaiseF, dIfS, dTest, dOp, dVar, dC, dCB, dCons, dNil, dCall, dAndV, dOrV, dNotV, dAndT, dOrT, dNotT, dIf, dTup, dLst, dLstV, dSl, dSlV, oSome, oNone, dNeg, gN, gT, gConsD, gNilD, gSubD, gFldD, dChain, dLc, dBM, isLst, iSeqD, iR1, iR2, iR3, dYes, isn_non, isn_bl, isn_int, isn_str, isn_ref, isn_tup, isn_rol, isn_obj, rdIx_tup, rdIx_rol, rdIx_put, rdSet, rdLen_tup, rdLen_rol, rdLen_str, rdLen_put, rdAppend, rdExt, rdPopAt, rdIsB, isBlV, rdStrI, rdIntS, dFrz, dFld, insOf_put, dMeth, lstOf_rol, lstOf_put, seqOf_tup, seqOf_rol, seqOf_put, frz_tup, frz_rol, frz_int, frz_bl, frz_non, frz_str, frz_obj, startN, wipeD, List.map_cons, List.map_nil, List.length_cons, List.length_nil, Nat.zero_add, Nat.sub_self, Nat.reduceAdd, Nat.reduceSub, List.replicate_succ, List.replicate_zero, List.cons_append, List.nil_append, List.append_nil, List.getElem?_cons_zero, List.getElem?_cons_succ, List.set_cons_zero, List.set_cons_succ, Option.some.injEq, exists_eq_left', atI_0, atI_1, atI_2, atI_3, atI_4, atI_5, atI_6, atI_7, ixN_50, ixN_51, ixN_52, ixN_53, ixN_54, ixN_30, ixN_31, ixN_32, put_same, put_put, true_and, and_true, decide_true, decide_false, Bool.not_true, Bool.not_false, Bool.false_eq_true, if_true, if_false, decide_eq_true_eq, Bool.not_eq_true', decide_eq_false_iff_not, mem_one, ex_one, and_self, xd_mk, qAdd_i, qAdd_t, qAdd_s, qAdd_l, qMul_i, qMul_t, qMul_l, qSub_i, qDiv_i, qMod_i, qPow_i, qIAdd_i, qEq_i, qEq_b, qEq_s, qCmp_i, qIsN, qSl_t, qSl_l, qSl_s, qInt_i, qInt_b, qInt1, qMax, qMin, qList_t, qList_l, i_Disk, l_Disk, h_Disk_write, h_Disk_sync, h_Disk_blocks, h_Disk_synced, h_Disk_cut, h_Disk_drop, h_Disk_copy, g_Disk_rows, p_Disk_rows, k_Disk_rows, g_Disk_lasting, p_Disk_lasting, k_Disk_lasting, insOf_ref hoy]
      refine go_blocks (X := X0) hP2 fun U sU => ?_
      simp only [dSeq, dAsg, dRet, dRetN, dDrop, dRaise, dBreak, dCont, dPar, dAug, dFor, dNext, dSetF, dAugF, dRaiseF, dIfS, dTest, dOp, dVar, dC, dCB, dCons, dNil, dCall, dAndV, dOrV, dNotV, dAndT, dOrT, dNotT, dIf, dTup, dLst, dLstV, dSl, dSlV, oSome, oNone, dNeg, gN, gT, gConsD, gNilD, gSubD, gFldD, dChain, dLc, dBM, isLst, iSeqD, iR1, iR2, iR3, dYes, isn_non, isn_bl, isn_int, isn_str, isn_ref, isn_tup, isn_rol, isn_obj, rdIx_tup, rdIx_rol, rdIx_put, rdSet, rdLen_tup, rdLen_rol, rdLen_str, rdLen_put, rdAppend, rdExt, rdPopAt, rdIsB, isBlV, rdStrI, rdIntS, dFrz, dFld, insOf_put, dMeth, lstOf_rol, lstOf_put, seqOf_tup, seqOf_rol, seqOf_put, frz_tup, frz_rol, frz_int, frz_bl, frz_non, frz_str, frz_obj, startN, wipeD, List.map_cons, List.map_nil, List.length_cons, List.length_nil, Nat.zero_add, Nat.sub_self, Nat.reduceAdd, Nat.reduceSub, List.replicate_succ, List.replicate_zero, List.cons_append, List.nil_append, List.append_nil, List.getElem?_cons_zero, List.getElem?_cons_succ, List.set_cons_zero, List.set_cons_succ, Option.some.injEq, exists_eq_left', atI_0, atI_1, atI_2, atI_3, atI_4, atI_5, atI_6, atI_7, ixN_50, ixN_51, ixN_52, ixN_53, ixN_54, ixN_30, ixN_31, ixN_32, put_same, put_put, true_and, and_true, decide_true, decide_false, Bool.not_true, Bool.not_false, Bool.false_eq_true, if_true, if_false, decide_eq_true_eq, Bool.not_eq_true', decide_eq_false_iff_not, mem_one, ex_one, and_self, xd_mk, qAdd_i, qAdd_t, qAdd_s, qAdd_l, qMul_i, qMul_t, qMul_l, qSub_i, qDiv_i, qMod_i, qPow_i, qIAdd_i, qEq_i, qEq_b, qEq_s, qCmp_i, qIsN, qSl_t, qSl_l, qSl_s, qInt_i, qInt_b, qInt1, qMax, qMin, qList_t, qList_l, i_Disk, l_Disk, h_Disk_write, h_Disk_sync, h_Disk_blocks, h_Disk_synced, h_Disk_cut, h_Disk_drop, h_Disk_copy, g_Disk_rows, p_Disk_rows, k_Disk_rows, g_Disk_lasting, p_Disk_lasting, k_Disk_lasting]
      exact hN _ _ ⟨r2, rows3, l3, (hL2.sub sU).self, (hP2.sub sU).self, rfl⟩
    clear hL hP
    obtain ⟨r3, rows3, l3, hL, hP, rfl⟩ := hM
    -- what was told is no part of the disk
    refine cut_seq (fun ρ T => Led A T T a c x r3 b r3 rows3 rows3 l3 ∧ Led A T T a c y s d s rows2 rows2 l2 ∧ ρ = [some (.rol script), some (.ref a), y2, some (.ref x), some (.ref b), some (.int (l : Nat)), some (.ref y), some (.ref d), some (.int (l2 : Nat))]) (fun N hN => ?_) fun ρ T hM => ?_
    · obtain ⟨dx, ho⟩ := hL.dk.obj
      simp only [dSeq, dAsg, dRet, dRetN, dDrop, dRaise, dBreak, dCont, dPar, dAug, dFor, dNext, dSetF, dAugF, dRaiseF, dIfS, dTest, dOp, dVar, dC, dCB, dCons, dNil, dCall, dAndV, dOrV, dNotV, dAndT, dOrT, dNotT, dIf, dTup, dLst, dLstV, dSl, dSlV, oSome, oNone, dNeg, gN, gT, gConsD, gNilD, gSubD, gFldD, dChain, dLc, dBM, isLst, iSeqD, iR1, iR2, iR3, dYes, isn_non, isn_bl, isn_int, isn_str, isn_ref, isn_tup, isn_rol, isn_obj, rdIx_tup, rdIx_rol, rdIx_put, rdSet, rdLen_tup, rdLen_rol, rdLen_str, rdLen_put, rdAppend, rdExt, rdPopAt, rdIsB, isBlV, rdStrI, rdIntS, dFrz, dFld, insOf_put, dMeth, lstOf_rol, lstOf_put, seqOf_tup, seqOf_rol, seqOf_put, frz_tup, frz_rol, frz_int, frz_bl, frz_non, frz_str, frz_obj, startN, wipeD, List.map_cons, List.map_nil, List.length_cons, List.length_nil, Nat.zero_add, Nat.sub_self, Nat.reduceAdd, Nat.reduceSub, List.replicate_succ, List.replicate_zero, List.cons_append, List.nil_append, List.append_nil, List.getElem?_cons_zero, List.getElem?_cons_succ, List.set_cons_zero, List.set_cons_succ, Option.some.injEq, exists_eq_left', atI_0, atI_1, atI_2, atI_3, atI_4, atI_5, atI_6, atI_7, ixN_50, ixN_51, ixN_52, ixN_53, ixN_54, ixN_30, ixN_31, ixN_32, put_same, put_put, true_and, and_true, decide_true, decide_false, Bool.not_true, Bool.not_false, Bool.false_eq_true, if_true, if_false, decide_eq_true_eq, Bool.not_eq_true', decide_eq_false_iff_not, mem_one, ex_one, and_self, xd_mk, qAdd_i, qAdd_t, qAdd_s, qAdd_l, qMul_i, qMul_t, qMul_l, qSub_i, qDiv_i, qMod_i, qPow_i, qIAdd_i, qEq_i, qEq_b, qEq_s, qCmp_i, qIsN, qSl_t, qSl_l, qSl_s, qInt_i, qInt_b, qInt1, qMax, qMin, qList_t, qList_l, i_Disk, l_Disk, h_Disk_write, h_Disk_sync, h_Disk_blocks, h_Disk_synced, h_Disk_cut, h_Disk_drop, h_Disk_copy, g_Disk_rows, p_Disk_rows, k_Disk_rows, g_Disk_lasting, p_Disk_lasting, k_Disk_lasting, insOf_ref ho]
      refine ⟨x, r3, rows3, l3, rfl, hL.dk, fun p hp => ?_⟩
      simp only [dSeq, dAsg, dRet, dRetN, dDrop, dRaise, dBreak, dCont, dPar, dAug, dFor, dNext, dSetF, dAugF, dRaiseF, dIfS, dTest, dOp, dVar, dC, dCB, dCons, dNil, dCall, dAndV, dOrV, dNotV, dAndT, dOrT, dNotT, dIf, dTup, dLst, dLstV, dSl, dSlV, oSome, oNone, dNeg, gN, gT, gConsD, gNilD, gSubD, gFldD, dChain, dLc, dBM, isLst, iSeqD, iR1, iR2, iR3, dYes, isn_non, isn_bl, isn_int, isn_str, isn_ref, isn_tup, isn_rol, isn_obj, rdIx_tup, rdIx_rol, rdIx_put, rdSet, rdLen_tup, rdLen_rol, rdLen_str, rdLen_put, rdAppend, rdExt, rdPopAt, rdIsB, isBlV, rdStrI, rdIntS, dFrz, dFld, insOf_put, dMeth, lstOf_rol, lstOf_put, seqOf_tup, seqOf_rol, seqOf_put, frz_tup, frz_rol, frz_int, frz_bl, frz_non, frz_str, frz_obj, startN, wipeD, List.map_cons, List.map_nil, List.length_cons, List.length_nil, Nat.zero_add, Nat.sub_self, Nat.reduceAdd, Nat.reduceSub, List.replicate_succ, List.replicate_zero, List.cons_append, List.nil_append, List.append_nil, List.getElem?_cons_zero, List.getElem?_cons_succ, List.set_cons_zero, List.set_cons_succ, Option.some.injEq, exists_eq_left', atI_0, atI_1, atI_2, atI_3, atI_4, atI_5, atI_6, atI_7, ixN_50, ixN_51, ixN_52, ixN_53, ixN_54, ixN_30, ixN_31, ixN_32, put_same, put_put, true_and, and_true, decide_true, decide_false, Bool.not_true, Bool.not_false, Bool.false_eq_true, if_true, if_false, decide_eq_true_eq, Bool.not_eq_true', decide_eq_false_iff_not, mem_one, ex_one, and_self, xd_mk, qAdd_i, qAdd_t, qAdd_s, qAdd_l, qMul_i, qMul_t, qMul_l, qSub_i, qDiv_i, qMod_i, qPow_i, qIAdd_i, qEq_i, qEq_b, qEq_s, qCmp_i, qIsN, qSl_t, qSl_l, qSl_s, qInt_i, qInt_b, qInt1, qMax, qMin, qList_t, qList_l, i_Disk, l_Disk, h_Disk_write, h_Disk_sync, h_Disk_blocks, h_Disk_synced, h_Disk_cut, h_Disk_drop, h_Disk_copy, g_Disk_rows, p_Disk_rows, k_Disk_rows, g_Disk_lasting, p_Disk_lasting, k_Disk_lasting]
      have hfew := hL.dk.few
      refine ⟨by decide, by rw [sizeLine_eq, List.length_map]; omega, hN _ _ ⟨(hL.sub (Sub.new hp)).self, (hP.sub (Sub.new hp)).self, rfl⟩⟩
    clear hL hP
    obtain ⟨hL, hP, rfl⟩ := hM
    obtain ⟨dx, ho⟩ := hL.dk.obj
    simp only [dSeq, dAsg, dRet, dRetN, dDrop, dRaise, dBreak, dCont, dPar, dAug, dFor, dNext, dSetF, dAugF, dRaiseF, dIfS, dTest, dOp, dVar, dC, dCB, dCons, dNil, dCall, dAndV, dOrV, dNotV, dAndT, dOrT, dNotT, dIf, dTup, dLst, dLstV, dSl, dSlV, oSome, oNone, dNeg, gN, gT, gConsD, gNilD, gSubD, gFldD, dChain, dLc, dBM, isLst, iSeqD, iR1, iR2, iR3, dYes, isn_non, isn_bl, isn_int, isn_str, isn_ref, isn_tup, isn_rol, isn_obj, rdIx_tup, rdIx_rol, rdIx_put, rdSet, rdLen_tup, rdLen_rol, rdLen_str, rdLen_put, rdAppend, rdExt, rdPopAt, rdIsB, isBlV, rdStrI, rdIntS, dFrz, dFld, insOf_put, dMeth, lstOf_rol, lstOf_put, seqOf_tup, seqOf_rol, seqOf_put, frz_tup, frz_rol, frz_int, frz_bl, frz_non, frz_str, frz_obj, startN, wipeD, List.map_cons, List.map_nil, List.length_cons, List.length_nil, Nat.zero_add, Nat.sub_self, Nat.reduceAdd, Nat.reduceSub, List.replicate_succ, List.replicate_zero, List.cons_append, List.nil_append, List.append_nil, List.getElem?_cons_zero, List.getElem?_cons_succ, List.set_cons_zero, List.set_cons_succ, Option.some.injEq, exists_eq_left', atI_0, atI_1, atI_2, atI_3, atI_4, atI_5, atI_6, atI_7, ixN_50, ixN_51, ixN_52, ixN_53, ixN_54, ixN_30, ixN_31, ixN_32, put_same, put_put, true_and, and_true, decide_true, decide_false, Bool.not_true, Bool.not_false, Bool.false_eq_true, if_true, if_false, decide_eq_true_eq, Bool.not_eq_true', decide_eq_false_iff_not, mem_one, ex_one, and_self, xd_mk, qAdd_i, qAdd_t, qAdd_s, qAdd_l, qMul_i, qMul_t, qMul_l, qSub_i, qDiv_i, qMod_i, qPow_i, qIAdd_i, qEq_i, qEq_b, qEq_s, qCmp_i, qIsN, qSl_t, qSl_l, qSl_s, qInt_i, qInt_b, qInt1, qMax, qMin, qList_t, qList_l, i_Disk, l_Disk, h_Disk_write, h_Disk_sync, h_Disk_blocks, h_Disk_synced, h_Disk_cut, h_Disk_drop, h_Disk_copy, g_Disk_rows, p_Disk_rows, k_Disk_rows, g_Disk_lasting, p_Disk_lasting, k_Disk_lasting, insOf_ref ho]
    refine go_blocks (X := X0) hL fun U sU => ?_
    have hP2 := hP.sub sU
    obtain ⟨dy, hoy⟩ := hP2.dk.obj
    simp only [dSeq, dAsg, dRet, dRetN, dDrop, dRaise, dBreak, dCont, dPar, dAug, dFor, dNext, dSetF, dAugF, dRaiseF, dIfS, dTest, dOp, dVar, dC, dCB, dCons, dNil, dCall, dAndV, dOrV, dNotV, dAndT, dOrT, dNotT, dIf, dTup, dLst, dLstV, dSl, dSlV, oSome, oNone, dNeg, gN, gT, gConsD, gNilD, gSubD, gFldD, dChain, dLc, dBM, isLst, iSeqD, iR1, iR2, iR3, dYes, isn_non, isn_bl, isn_int, isn_str, isn_ref, isn_tup, isn_rol, isn_obj, rdIx_tup, rdIx_rol, rdIx_put, rdSet, rdLen_tup, rdLen_rol, rdLen_str, rdLen_put, rdAppend, rdExt, rdPopAt, rdIsB, isBlV, rdStrI, rdIntS, dFrz, dFld, insOf_put, dMeth, lstOf_rol, lstOf_put, seqOf_tup, seqOf_rol, seqOf_put, frz_tup, frz_rol, frz_int, frz_bl, frz_non, frz_str, frz_obj, startN, wipeD, List.map_cons, List.map_nil, List.length_cons, List.length_nil, Nat.zero_add, Nat.sub_self, Nat.reduceAdd, Nat.reduceSub, List.replicate_succ, List.replicate_zero, List.cons_append, List.nil_append, List.append_nil, List.getElem?_cons_zero, List.getElem?_cons_succ, List.set_cons_zero, List.set_cons_succ, Option.some.injEq, exists_eq_left', atI_0, atI_1, atI_2, atI_3, atI_4, atI_5, atI_6, atI_7, ixN_50, ixN_51, ixN_52, ixN_53, ixN_54, ixN_30, ixN_31, ixN_32, put_same, put_put, true_and, and_true, decide_true, decide_false, Bool.not_true, Bool.not_false, Bool.false_eq_true, if_true, if_false, decide_eq_true_eq, Bool.not_eq_true', decide_eq_false_iff_not, mem_one, ex_one, and_self, xd_mk, qAdd_i, qAdd_t, qAdd_s, qAdd_l, qMul_i, qMul_t, qMul_l, qSub_i, qDiv_i, qMod_i, qPow_i, qIAdd_i, qEq_i, qEq_b, qEq_s, qCmp_i, qIsN, qSl_t, qSl_l, qSl_s, qInt_i, qInt_b, qInt1, qMax, qMin, qList_t, qList_l, i_Disk, l_Disk, h_Disk_write, h_Disk_sync, h_Disk_blocks, h_Disk_synced, h_Disk_cut, h_Disk_drop, h_Disk_copy, g_Disk_rows, p_Disk_rows, k_Disk_rows, g_Disk_lasting, p_Disk_lasting, k_Disk_lasting, insOf_ref hoy]
    refine go_synced (X := X0) hP2 ?_
    simp only [dSeq, dAsg, dRet, dRetN, dDrop, dRaise, dBreak, dCont, dPar, dAug, dFor, dNext, dSetF, dAugF, dRaiseF, dIfS, dTest, dOp, dVar, dC, dCB, dCons, dNil, dCall, dAndV, dOrV, dNotV, dAndT, dOrT, dNotT, dIf, dTup, dLst, dLstV, dSl, dSlV, oSome, oNone, dNeg, gN, gT, gConsD, gNilD, gSubD, gFldD, dChain, dLc, dBM, isLst, iSeqD, iR1, iR2, iR3, dYes, isn_non, isn_bl, isn_int, isn_str, isn_ref, isn_tup, isn_rol, isn_obj, rdIx_tup, rdIx_rol, rdIx_put, rdSet, rdLen_tup, rdLen_rol, rdLen_str, rdLen_put, rdAppend, rdExt, rdPopAt, rdIsB, isBlV, rdStrI, rdIntS, dFrz, dFld, insOf_put, dMeth, lstOf_rol, lstOf_put, seqOf_tup, seqOf_rol, seqOf_put, frz_tup, frz_rol, frz_int, frz_bl, frz_non, frz_str, frz_obj, startN, wipeD, List.map_cons, List.map_nil, List.length_cons, List.length_nil, Nat.zero_add, Nat.sub_self, Nat.reduceAdd, Nat.reduceSub, List.replicate_succ, List.replicate_zero, List.cons_append, List.nil_append, List.append_nil, List.getElem?_cons_zero, List.getElem?_cons_succ, List.set_cons_zero, List.set_cons_succ, Option.some.injEq, exists_eq_left', atI_0, atI_1, atI_2, atI_3, atI_4, atI_5, atI_6, atI_7, ixN_50, ixN_51, ixN_52, ixN_53, ixN_54, ixN_30, ixN_31, ixN_32, put_same, put_put, true_and, and_true, decide_true, decide_false, Bool.not_true, Bool.not_false, Bool.false_eq_true, if_true, if_false, decide_eq_true_eq, Bool.not_eq_true', decide_eq_false_iff_not, mem_one, ex_one, and_self, xd_mk, qAdd_i, qAdd_t, qAdd_s, qAdd_l, qMul_i, qMul_t, qMul_l, qSub_i, qDiv_i, qMod_i, qPow_i, qIAdd_i, qEq_i, qEq_b, qEq_s, qCmp_i, qIsN, qSl_t, qSl_l, qSl_s, qInt_i, qInt_b, qInt1, qMax, qMin, qList_t, qList_l, i_Disk, l_Disk, h_Disk_write, h_Disk_sync, h_Disk_blocks, h_Disk_synced, h_Disk_cut, h_Disk_drop, h_Disk_copy, g_Disk_rows, p_Disk_rows, k_Disk_rows, g_Disk_lasting, p_Disk_lasting, k_Disk_lasting]
    exact ⟨hP2.hd, _, _, _, _, _, _, _, rfl⟩
  · obtain ⟨hT, y2, y3, y4, y5, y6, y7, y8, rfl⟩ := hw
    simp only [dSeq, dAsg, dRet, dRetN, dDrop, dRaise, dBreak, dCont, dPar, dAug, dFor, dNext, dSetF, dAugF, dRaiseF, dIfS, dTest, dOp, dVar, dC, dCB, dCons, dNil, dCall, dAndV, dOrV, dNotV, dAndT, dOrT, dNotT, dIf, dTup, dLst, dLstV, dSl, dSlV, oSome, oNone, dNeg, gN, gT, gConsD, gNilD, gSubD, gFldD, dChain, dLc, dBM, isLst, iSeqD, iR1, iR2, iR3, dYes, isn_non, isn_bl, isn_int, isn_str, isn_ref, isn_tup, isn_rol, isn_obj, rdIx_tup, rdIx_rol, rdIx_put, rdSet, rdLen_tup, rdLen_rol, rdLen_str, rdLen_put, rdAppend, rdExt, rdPopAt, rdIsB, isBlV, rdStrI, rdIntS, dFrz, dFld, insOf_put, dMeth, lstOf_rol, lstOf_put, seqOf_tup, seqOf_rol, seqOf_put, frz_tup, frz_rol, frz_int, frz_bl, frz_non, frz_str, frz_obj, startN, wipeD, List.map_cons, List.map_nil, List.length_cons, List.length_nil, Nat.zero_add, Nat.sub_self, Nat.reduceAdd, Nat.reduceSub, List.replicate_succ, List.replicate_zero, List.cons_append, List.nil_append, List.append_nil, List.getElem?_cons_zero, List.getElem?_cons_succ, List.set_cons_zero, List.set_cons_succ, Option.some.injEq, exists_eq_left', atI_0, atI_1, atI_2, atI_3, atI_4, atI_5, atI_6, atI_7, ixN_50, ixN_51, ixN_52, ixN_53, ixN_54, ixN_30, ixN_31, ixN_32, put_same, put_put, true_and, and_true, decide_true, decide_false, Bool.not_true, Bool.not_false, Bool.false_eq_true, if_true, if_false, decide_eq_true_eq, Bool.not_eq_true', decide_eq_false_iff_not, mem_one, ex_one, and_self, xd_mk, qAdd_i, qAdd_t, qAdd_s, qAdd_l, qMul_i, qMul_t, qMul_l, qSub_i, qDiv_i, qMod_i, qPow_i, qIAdd_i, qEq_i, qEq_b, qEq_s, qCmp_i, qIsN, qSl_t, qSl_l, qSl_s, qInt_i, qInt_b, qInt1, qMax, qMin, qList_t, qList_l, i_Disk, l_Disk, h_Disk_write, h_Disk_sync, h_Disk_blocks, h_Disk_synced, h_Disk_cut, h_Disk_drop, h_Disk_copy, g_Disk_rows, p_Disk_rows, k_Disk_rows, g_Disk_lasting, p_Disk_lasting, k_Disk_lasting]
    exact hq _
end Lw

namespace Lw
open PySem PySem.Spec PyProof.Rows L2 VD
/-! terms, printed by gen.py from the law k53 -/
def topS (i : Nat) : Stmt := PySem.Challenge.pw_guessedworlds_k53_whole_disks_by_own_mod.main.body.getD i (.Pass ⟨0, 0, 0, 0⟩)
abbrev s_is_integer : Stmt := topS 6
abbrev N_is_integer : List Str := [Str.ofString "thing"]
theorem sc_is_integer : FnScope N_is_integer [Str.ofString "thing"] (defScope s_is_integer) := ⟨rfl, rfl, rfl, by decide +kernel, rfl, by decide +kernel, by decide +kernel⟩
abbrev s_is_within : Stmt := topS 7
abbrev N_is_within : List Str := [Str.ofString "thing", Str.ofString "least", Str.ofString "most"]
theorem sc_is_within : FnScope N_is_within [Str.ofString "thing", Str.ofString "least", Str.ofString "most"] (defScope s_is_within) := ⟨rfl, rfl, rfl, by decide +kernel, rfl, by decide +kernel, by decide +kernel⟩
abbrev s_is_below : Stmt := topS 8
abbrev N_is_below : List Str := [Str.ofString "thing", Str.ofString "many"]
theorem sc_is_below : FnScope N_is_below [Str.ofString "thing", Str.ofString "many"] (defScope s_is_below) := ⟨rfl, rfl, rfl, by decide +kernel, rfl, by decide +kernel, by decide +kernel⟩
abbrev s_is_sized : Stmt := topS 9
abbrev N_is_sized : List Str := [Str.ofString "thing", Str.ofString "least", Str.ofString "most"]
theorem sc_is_sized : FnScope N_is_sized [Str.ofString "thing", Str.ofString "least", Str.ofString "most"] (defScope s_is_sized) := ⟨rfl, rfl, rfl, by decide +kernel, rfl, by decide +kernel, by decide +kernel⟩
abbrev s_check_within : Stmt := topS 10
abbrev N_check_within : List Str := [Str.ofString "thing", Str.ofString "least", Str.ofString "most"]
theorem sc_check_within : FnScope N_check_within [Str.ofString "thing", Str.ofString "least", Str.ofString "most"] (defScope s_check_within) := ⟨rfl, rfl, rfl, by decide +kernel, rfl, by decide +kernel, by decide +kernel⟩
abbrev s_is_row : Stmt := topS 14
abbrev N_is_row : List Str := [Str.ofString "thing", Str.ofString "item"]
theorem sc_is_row : FnScope N_is_row [Str.ofString "thing"] (defScope s_is_row) := ⟨rfl, rfl, rfl, by decide +kernel, rfl, by decide +kernel, by decide +kernel⟩
abbrev s_check_row : Stmt := topS 15
abbrev N_check_row : List Str := [Str.ofString "thing"]
theorem sc_check_row : FnScope N_check_row [Str.ofString "thing"] (defScope s_check_row) := ⟨rfl, rfl, rfl, by decide +kernel, rfl, by decide +kernel, by decide +kernel⟩
abbrev s_Disk_init : Stmt := inClass (topS 17) 0
abbrev N_Disk_init : List Str := [Str.ofString "self"]
theorem sc_Disk_init : FnScope N_Disk_init [Str.ofString "self"] (defScope s_Disk_init) := ⟨rfl, rfl, rfl, by decide +kernel, rfl, by decide +kernel, by decide +kernel⟩
abbrev s_Disk_write : Stmt := inClass (topS 17) 1
abbrev N_Disk_write : List Str := [Str.ofString "self", Str.ofString "row"]
theorem sc_Disk_write : FnScope N_Disk_write [Str.ofString "self", Str.ofString "row"] (defScope s_Disk_write) := ⟨rfl, rfl, rfl, by decide +kernel, rfl, by decide +kernel, by decide +kernel⟩
abbrev s_Disk_sync : Stmt := inClass (topS 17) 2
abbrev N_Disk_sync : List Str := [Str.ofString "self", Str.ofString "found"]
theorem sc_Disk_sync : FnScope N_Disk_sync [Str.ofString "self"] (defScope s_Disk_sync) := ⟨rfl, rfl, rfl, by decide +kernel, rfl, by decide +kernel, by decide +kernel⟩
abbrev s_Disk_blocks : Stmt := inClass (topS 17) 3
abbrev N_Disk_blocks : List Str := [Str.ofString "self"]
theorem sc_Disk_blocks : FnScope N_Disk_blocks [Str.ofString "self"] (defScope s_Disk_blocks) := ⟨rfl, rfl, rfl, by decide +kernel, rfl, by decide +kernel, by decide +kernel⟩
abbrev s_Disk_synced : Stmt := inClass (topS 17) 4
abbrev N_Disk_synced : List Str := [Str.ofString "self"]
theorem sc_Disk_synced : FnScope N_Disk_synced [Str.ofString "self"] (defScope s_Disk_synced) := ⟨rfl, rfl, rfl, by decide +kernel, rfl, by decide +kernel, by decide +kernel⟩
abbrev s_Disk_cut : Stmt := inClass (topS 17) 5
abbrev N_Disk_cut : List Str := [Str.ofString "self", Str.ofString "kept", Str.ofString "waiting", Str.ofString "many", Str.ofString "row"]
theorem sc_Disk_cut : FnScope N_Disk_cut [Str.ofString "self", Str.ofString "kept"] (defScope s_Disk_cut) := ⟨rfl, rfl, rfl, by decide +kernel, rfl, by decide +kernel, by decide +kernel⟩
abbrev s_Disk_drop : Stmt := inClass (topS 17) 6
abbrev N_Disk_drop : List Str := [Str.ofString "self", Str.ofString "number"]
theorem sc_Disk_drop : FnScope N_Disk_drop [Str.ofString "self", Str.ofString "number"] (defScope s_Disk_drop) := ⟨rfl, rfl, rfl, by decide +kernel, rfl, by decide +kernel, by decide +kernel⟩
abbrev s_Disk_copy : Stmt := inClass (topS 17) 7
abbrev N_Disk_copy : List Str := [Str.ofString "self", Str.ofString "found"]
theorem sc_Disk_copy : FnScope N_Disk_copy [Str.ofString "self"] (defScope s_Disk_copy) := ⟨rfl, rfl, rfl, by decide +kernel, rfl, by decide +kernel, by decide +kernel⟩
abbrev s__law_pool : Stmt := topS 19
abbrev N__law_pool : List Str := [Str.ofString "_law_script", Str.ofString "_law_seed", Str.ofString "_law_cell"]
theorem sc__law_pool : FnScope N__law_pool [Str.ofString "_law_script"] (defScope s__law_pool) := ⟨rfl, rfl, rfl, by decide +kernel, rfl, by decide +kernel, by decide +kernel⟩
abbrev s__law_draw : Stmt := topS 20
abbrev N__law_draw : List Str := [Str.ofString "_law_pool_here", Str.ofString "_law_many", Str.ofString "_law_cells", Str.ofString "_law_digit", Str.ofString "_law_mixed"]
theorem sc__law_draw : FnScope N__law_draw [Str.ofString "_law_pool_here", Str.ofString "_law_many"] (defScope s__law_draw) := ⟨rfl, rfl, rfl, by decide +kernel, rfl, by decide +kernel, by decide +kernel⟩
abbrev s__law_deep : Stmt := topS 21
abbrev N__law_deep : List Str := [Str.ofString "_law_thing", Str.ofString "_law_turn"]
theorem sc__law_deep : FnScope N__law_deep [] (defScope s__law_deep) := ⟨rfl, rfl, rfl, by decide +kernel, rfl, by decide +kernel, by decide +kernel⟩
abbrev s__law_is : Stmt := topS 22
abbrev N__law_is : List Str := [Str.ofString "_law_told", Str.ofString "_law_due"]
theorem sc__law_is : FnScope N__law_is [Str.ofString "_law_told", Str.ofString "_law_due"] (defScope s__law_is) := ⟨rfl, rfl, rfl, by decide +kernel, rfl, by decide +kernel, by decide +kernel⟩
abbrev s__law_is_row : Stmt := topS 23
abbrev N__law_is_row : List Str := [Str.ofString "_law_thing", Str.ofString "_law_one"]
theorem sc__law_is_row : FnScope N__law_is_row [Str.ofString "_law_thing"] (defScope s__law_is_row) := ⟨rfl, rfl, rfl, by decide +kernel, rfl, by decide +kernel, by decide +kernel⟩
abbrev s__law_word : Stmt := topS 24
abbrev N__law_word : List Str := [Str.ofString "_law_disk", Str.ofString "_law_which", Str.ofString "_law_thing", Str.ofString "_law_found", Str.ofString "e", Str.ofString "_law_flags"]
theorem sc__law_word : FnScope N__law_word [Str.ofString "_law_disk", Str.ofString "_law_which", Str.ofString "_law_thing"] (defScope s__law_word) := ⟨rfl, rfl, rfl, by decide +kernel, rfl, by decide +kernel, by decide +kernel⟩
abbrev s__law_is_cut : Stmt := topS 25
abbrev N__law_is_cut : List Str := [Str.ofString "_law_blocks", Str.ofString "_law_synced", Str.ofString "_law_thing", Str.ofString "_law_many", Str.ofString "_law_block"]
theorem sc__law_is_cut : FnScope N__law_is_cut [Str.ofString "_law_blocks", Str.ofString "_law_synced", Str.ofString "_law_thing"] (defScope s__law_is_cut) := ⟨rfl, rfl, rfl, by decide +kernel, rfl, by decide +kernel, by decide +kernel⟩
abbrev s__law_odd : Stmt := topS 26
abbrev N__law_odd : List Str := [Str.ofString "_law_pool_here", Str.ofString "_law_things", Str.ofString "_law_at", Str.ofString "_law_one"]
theorem sc__law_odd : FnScope N__law_odd [Str.ofString "_law_pool_here", Str.ofString "_law_things"] (defScope s__law_odd) := ⟨rfl, rfl, rfl, by decide +kernel, rfl, by decide +kernel, by decide +kernel⟩
abbrev s__law_led : Stmt := topS 27
abbrev N__law_led : List Str := [Str.ofString "_law_pool_here", Str.ofString "_law_disk", Str.ofString "_law_blocks", Str.ofString "_law_synced", Str.ofString "_law_many", Str.ofString "_law_turn", Str.ofString "_law_kind", Str.ofString "_law_row", Str.ofString "_law_thing", Str.ofString "_law_due", Str.ofString "_law_kept", Str.ofString "_law_number", Str.ofString "_law_byte", Str.ofString "_law_block", Str.ofString "_law_length"]
theorem sc__law_led : FnScope N__law_led [Str.ofString "_law_pool_here", Str.ofString "_law_disk", Str.ofString "_law_blocks", Str.ofString "_law_synced", Str.ofString "_law_many"] (defScope s__law_led) := ⟨rfl, rfl, rfl, by decide +kernel, rfl, by decide +kernel, by decide +kernel⟩
abbrev s_law : Stmt := topS 28
abbrev N_law : List Str := [Str.ofString "_law_script", Str.ofString "_law_pool_here", Str.ofString "_law_turn", Str.ofString "_law_disk", Str.ofString "_law_blocks", Str.ofString "_law_synced", Str.ofString "_law_apart", Str.ofString "_law_others", Str.ofString "_law_first"]
theorem sc_law : FnScope N_law [Str.ofString "_law_script"] (defScope s_law) := ⟨rfl, rfl, rfl, by decide +kernel, rfl, by decide +kernel, by decide +kernel⟩
structure Tx (K : PySem.W.Frag) (mg : Str → Option Value) (A : Ad) where
  ot : OTab.Ok K A.ot
  c_Disk : Cls K A.Disk
  na_Disk_lasting : NoAttr K A.Disk (Str.ofString "lasting")
  na_Disk_rows : NoAttr K A.Disk (Str.ofString "rows")
  a_is_integer : Addr
  fd_is_integer : FuncData
  F_is_integer : Fun K "is_integer" "is_integer" s_is_integer a_is_integer fd_is_integer
  m_is_integer : mg "is_integer" = some (.ref a_is_integer)
  b_is_integer : Binds K fd_is_integer [Str.ofString "thing"] []
  a_is_within : Addr
  fd_is_within : FuncData
  F_is_within : Fun K "is_within" "is_within" s_is_within a_is_within fd_is_within
  m_is_within : mg "is_within" = some (.ref a_is_within)
  b_is_within : Binds K fd_is_within [Str.ofString "thing", Str.ofString "least", Str.ofString "most"] []
  a_is_below : Addr
  fd_is_below : FuncData
  F_is_below : Fun K "is_below" "is_below" s_is_below a_is_below fd_is_below
  m_is_below : mg "is_below" = some (.ref a_is_below)
  b_is_below : Binds K fd_is_below [Str.ofString "thing", Str.ofString "many"] []
  a_is_sized : Addr
  fd_is_sized : FuncData
  F_is_sized : Fun K "is_sized" "is_sized" s_is_sized a_is_sized fd_is_sized
  m_is_sized : mg "is_sized" = some (.ref a_is_sized)
  b_is_sized : Binds K fd_is_sized [Str.ofString "thing", Str.ofString "least", Str.ofString "most"] []
  a_check_within : Addr
  fd_check_within : FuncData
  F_check_within : Fun K "check_within" "check_within" s_check_within a_check_within fd_check_within
  m_check_within : mg "check_within" = some (.ref a_check_within)
  b_check_within : Binds K fd_check_within [Str.ofString "thing", Str.ofString "least", Str.ofString "most"] []
  a_is_row : Addr
  fd_is_row : FuncData
  F_is_row : Fun K "is_row" "is_row" s_is_row a_is_row fd_is_row
  m_is_row : mg "is_row" = some (.ref a_is_row)
  b_is_row : Binds K fd_is_row [Str.ofString "thing"] []
  a_check_row : Addr
  fd_check_row : FuncData
  F_check_row : Fun K "check_row" "check_row" s_check_row a_check_row fd_check_row
  m_check_row : mg "check_row" = some (.ref a_check_row)
  b_check_row : Binds K fd_check_row [Str.ofString "thing"] []
  a_Disk_init : Addr
  fd_Disk_init : FuncData
  F_Disk_init : Fun K "__init__" "Disk.__init__" s_Disk_init a_Disk_init fd_Disk_init
  b_Disk_init : Binds K fd_Disk_init [Str.ofString "self"] []
  a_Disk_write : Addr
  fd_Disk_write : FuncData
  F_Disk_write : Fun K "write" "Disk.write" s_Disk_write a_Disk_write fd_Disk_write
  b_Disk_write : Binds K fd_Disk_write [Str.ofString "self", Str.ofString "row"] []
  a_Disk_sync : Addr
  fd_Disk_sync : FuncData
  F_Disk_sync : Fun K "sync" "Disk.sync" s_Disk_sync a_Disk_sync fd_Disk_sync
  b_Disk_sync : Binds K fd_Disk_sync [Str.ofString "self"] []
  a_Disk_blocks : Addr
  fd_Disk_blocks : FuncData
  F_Disk_blocks : Fun K "blocks" "Disk.blocks" s_Disk_blocks a_Disk_blocks fd_Disk_blocks
  b_Disk_blocks : Binds K fd_Disk_blocks [Str.ofString "self"] []
  a_Disk_synced : Addr
  fd_Disk_synced : FuncData
  F_Disk_synced : Fun K "synced" "Disk.synced" s_Disk_synced a_Disk_synced fd_Disk_synced
  b_Disk_synced : Binds K fd_Disk_synced [Str.ofString "self"] []
  a_Disk_cut : Addr
  fd_Disk_cut : FuncData
  F_Disk_cut : Fun K "cut" "Disk.cut" s_Disk_cut a_Disk_cut fd_Disk_cut
  b_Disk_cut : Binds K fd_Disk_cut [Str.ofString "self", Str.ofString "kept"] []
  a_Disk_drop : Addr
  fd_Disk_drop : FuncData
  F_Disk_drop : Fun K "drop" "Disk.drop" s_Disk_drop a_Disk_drop fd_Disk_drop
  b_Disk_drop : Binds K fd_Disk_drop [Str.ofString "self", Str.ofString "number"] []
  a_Disk_copy : Addr
  fd_Disk_copy : FuncData
  F_Disk_copy : Fun K "copy" "Disk.copy" s_Disk_copy a_Disk_copy fd_Disk_copy
  b_Disk_copy : Binds K fd_Disk_copy [Str.ofString "self"] []
  a__law_pool : Addr
  fd__law_pool : FuncData
  F__law_pool : Fun K "_law_pool" "_law_pool" s__law_pool a__law_pool fd__law_pool
  m__law_pool : mg "_law_pool" = some (.ref a__law_pool)
  b__law_pool : Binds K fd__law_pool [Str.ofString "_law_script"] []
  a__law_draw : Addr
  fd__law_draw : FuncData
  F__law_draw : Fun K "_law_draw" "_law_draw" s__law_draw a__law_draw fd__law_draw
  m__law_draw : mg "_law_draw" = some (.ref a__law_draw)
  b__law_draw : Binds K fd__law_draw [Str.ofString "_law_pool_here", Str.ofString "_law_many"] []
  a__law_deep : Addr
  fd__law_deep : FuncData
  F__law_deep : Fun K "_law_deep" "_law_deep" s__law_deep a__law_deep fd__law_deep
  m__law_deep : mg "_law_deep" = some (.ref a__law_deep)
  b__law_deep : Binds K fd__law_deep [] []
  a__law_is : Addr
  fd__law_is : FuncData
  F__law_is : Fun K "_law_is" "_law_is" s__law_is a__law_is fd__law_is
  m__law_is : mg "_law_is" = some (.ref a__law_is)
  b__law_is : Binds K fd__law_is [Str.ofString "_law_told", Str.ofString "_law_due"] []
  a__law_is_row : Addr
  fd__law_is_row : FuncData
  F__law_is_row : Fun K "_law_is_row" "_law_is_row" s__law_is_row a__law_is_row fd__law_is_row
  m__law_is_row : mg "_law_is_row" = some (.ref a__law_is_row)
  b__law_is_row : Binds K fd__law_is_row [Str.ofString "_law_thing"] []
  a__law_word : Addr
  fd__law_word : FuncData
  F__law_word : Fun K "_law_word" "_law_word" s__law_word a__law_word fd__law_word
  m__law_word : mg "_law_word" = some (.ref a__law_word)
  b__law_word : Binds K fd__law_word [Str.ofString "_law_disk", Str.ofString "_law_which", Str.ofString "_law_thing"] []
  a__law_is_cut : Addr
  fd__law_is_cut : FuncData
  F__law_is_cut : Fun K "_law_is_cut" "_law_is_cut" s__law_is_cut a__law_is_cut fd__law_is_cut
  m__law_is_cut : mg "_law_is_cut" = some (.ref a__law_is_cut)
  b__law_is_cut : Binds K fd__law_is_cut [Str.ofString "_law_blocks", Str.ofString "_law_synced", Str.ofString "_law_thing"] []
  a__law_odd : Addr
  fd__law_odd : FuncData
  F__law_odd : Fun K "_law_odd" "_law_odd" s__law_odd a__law_odd fd__law_odd
  m__law_odd : mg "_law_odd" = some (.ref a__law_odd)
  b__law_odd : Binds K fd__law_odd [Str.ofString "_law_pool_here", Str.ofString "_law_things"] []
  a__law_led : Addr
  fd__law_led : FuncData
  F__law_led : Fun K "_law_led" "_law_led" s__law_led a__law_led fd__law_led
  m__law_led : mg "_law_led" = some (.ref a__law_led)
  b__law_led : Binds K fd__law_led [Str.ofString "_law_pool_here", Str.ofString "_law_disk", Str.ofString "_law_blocks", Str.ofString "_law_synced", Str.ofString "_law_many"] []
  a_law : Addr
  fd_law : FuncData
  F_law : Fun K "law" "law" s_law a_law fd_law
  m_law : mg "law" = some (.ref a_law)
  b_law : Binds K fd_law [Str.ofString "_law_script"] []
  me_Disk_blocks : Meth K A.Disk (Str.ofString "blocks") a_Disk_blocks
  me_Disk_copy : Meth K A.Disk (Str.ofString "copy") a_Disk_copy
  me_Disk_cut : Meth K A.Disk (Str.ofString "cut") a_Disk_cut
  me_Disk_drop : Meth K A.Disk (Str.ofString "drop") a_Disk_drop
  me_Disk_sync : Meth K A.Disk (Str.ofString "sync") a_Disk_sync
  me_Disk_synced : Meth K A.Disk (Str.ofString "synced") a_Disk_synced
  me_Disk_write : Meth K A.Disk (Str.ofString "write") a_Disk_write
  mk_Disk : Mk K A.Disk a_Disk_init
  u_BYTE : Value
  m_BYTE : mg "BYTE" = some u_BYTE
  v_BYTE : VRep K u_BYTE (.int 256)
  u_MOST_BYTES : Value
  m_MOST_BYTES : mg "MOST_BYTES" = some u_MOST_BYTES
  v_MOST_BYTES : VRep K u_MOST_BYTES (.int 300000)
  n_ValueError : mg "ValueError" = none
  n_abs : mg "abs" = none
  n_all : mg "all" = none
  n_bool : mg "bool" = none
  n_int : mg "int" = none
  n_isinstance : mg "isinstance" = none
  n_len : mg "len" = none
  n_list : mg "list" = none
  n_min : mg "min" = none
  n_range : mg "range" = none
  n_repr : mg "repr" = none
  n_sum : mg "sum" = none
  n_tuple : mg "tuple" = none
  n_zip : mg "zip" = none
  m_WorldError : mg "WorldError" = some (.ref A.WorldError)
  x_WorldError : Exc0 K A.WorldError
  m_NoNumber : mg "NoNumber" = some (.ref A.NoNumber)
  x_NoNumber : Exc0 K A.NoNumber
  m_NoRow : mg "NoRow" = some (.ref A.NoRow)
  x_NoRow : Exc0 K A.NoRow
  m_NoCut : mg "NoCut" = some (.ref A.NoCut)
  x_NoCut : Exc0 K A.NoCut
  m_Disk : mg "Disk" = some (.ref A.Disk)
  e_NoCut_WorldError : PySem.W.exmOne K (.ref A.NoCut) (.ref A.WorldError) = some true
  e_NoNumber_WorldError : PySem.W.exmOne K (.ref A.NoNumber) (.ref A.WorldError) = some true
  e_NoRow_WorldError : PySem.W.exmOne K (.ref A.NoRow) (.ref A.WorldError) = some true
  xe_NoCut : ExcC K A.NoCut
  xe_NoNumber : ExcC K A.NoNumber
  xe_NoRow : ExcC K A.NoRow
  ki_NoCut_NoCut : PySem.W.kitOne K (.ref A.NoCut) (.ref A.NoCut) = some true
  ki_NoCut_NoNumber : PySem.W.kitOne K (.ref A.NoCut) (.ref A.NoNumber) = some false
  ki_NoCut_NoRow : PySem.W.kitOne K (.ref A.NoCut) (.ref A.NoRow) = some false
  ki_NoCut_ValueError : PySem.W.kitOne K (.ref A.NoCut) (.type "ValueError") = some true
  ki_NoNumber_NoCut : PySem.W.kitOne K (.ref A.NoNumber) (.ref A.NoCut) = some false
  ki_NoNumber_NoNumber : PySem.W.kitOne K (.ref A.NoNumber) (.ref A.NoNumber) = some true
  ki_NoNumber_NoRow : PySem.W.kitOne K (.ref A.NoNumber) (.ref A.NoRow) = some false
  ki_NoNumber_ValueError : PySem.W.kitOne K (.ref A.NoNumber) (.type "ValueError") = some true
  ki_NoRow_NoCut : PySem.W.kitOne K (.ref A.NoRow) (.ref A.NoCut) = some false
  ki_NoRow_NoNumber : PySem.W.kitOne K (.ref A.NoRow) (.ref A.NoNumber) = some false
  ki_NoRow_NoRow : PySem.W.kitOne K (.ref A.NoRow) (.ref A.NoRow) = some true
  ki_NoRow_ValueError : PySem.W.kitOne K (.ref A.NoRow) (.type "ValueError") = some true
section
variable {P : Program} {w : World} {K : PySem.W.Frag} {mg : Str → Option Value} {base : Heap} {A : Ad}
theorem w_is_integer (T : Tx K mg A) (cdv : Value) (An : Around) (outer : List Env) (s : Shared) (H : Hp) (E : XK) (hr : RoomG 0 (An.deeper (envOfC "is_integer" (defScope s_is_integer) s.heap.objs.size T.a_is_integer cdv))) :
    PSs (cxOf (L2.CX P w) P w K mg base N_is_integer "is_integer" (defScope s_is_integer) T.a_is_integer cdv An outer s H E) (defBody s_is_integer) (lowS K (WF E) (r_is_integer A)) :=
  (s_one (s_ret (d_and (d_callB call_isiA (l_isi T.ot) T.n_isinstance bt_isinstance (da_cons (dv 0) (da_cons (d_ty T.n_int bt_int) da_nil))) (d_one (d_not (d_callB call_isiA (l_isi T.ot) T.n_isinstance bt_isinstance (da_cons (dv 0) (da_cons (d_ty T.n_bool bt_bool) da_nil))))))))
theorem w_is_within (T : Tx K mg A) (G_is_integer : FnD P w K mg base 1 T.a_is_integer T.fd_is_integer [Str.ofString "thing"] (sp_is_integer A)) (cdv : Value) (An : Around) (outer : List Env) (s : Shared) (H : Hp) (E : XK) (hr : RoomG 1 (An.deeper (envOfC "is_within" (defScope s_is_within) s.heap.objs.size T.a_is_within cdv))) :
    PSs (cxOf (L2.CX P w) P w K mg base N_is_within "is_within" (defScope s_is_within) T.a_is_within cdv An outer s H E) (defBody s_is_within) (lowS K (WF E) (r_is_within A)) :=
  (s_one (s_ret (d_and (d_call G_is_integer (hr.mono (by decide)) T.m_is_integer T.F_is_integer.kp T.b_is_integer tkF (da_cons (dv 0) da_nil)) (d_one (d_chain op_le l_cmp op_le l_cmp (dv 1) (dv 0) (dv 2))))))
theorem w_is_below (T : Tx K mg A) (G_is_within : FnD P w K mg base 2 T.a_is_within T.fd_is_within [Str.ofString "thing", Str.ofString "least", Str.ofString "most"] (sp_is_within A)) (cdv : Value) (An : Around) (outer : List Env) (s : Shared) (H : Hp) (E : XK) (hr : RoomG 2 (An.deeper (envOfC "is_below" (defScope s_is_below) s.heap.objs.size T.a_is_below cdv))) :
    PSs (cxOf (L2.CX P w) P w K mg base N_is_below "is_below" (defScope s_is_below) T.a_is_below cdv An outer s H E) (defBody s_is_below) (lowS K (WF E) (r_is_below A)) :=
  (s_one (s_ret (d_call G_is_within (hr.mono (by decide)) T.m_is_within T.F_is_within.kp T.b_is_within tkF (da_cons (dv 0) (da_cons d_int (da_cons (d_op op_sub l_sub (dv 1) d_int) da_nil))))))
theorem w_is_sized (T : Tx K mg A) (cdv : Value) (An : Around) (outer : List Env) (s : Shared) (H : Hp) (E : XK) (hr : RoomG 0 (An.deeper (envOfC "is_sized" (defScope s_is_sized) s.heap.objs.size T.a_is_sized cdv))) :
    PSs (cxOf (L2.CX P w) P w K mg base N_is_sized "is_sized" (defScope s_is_sized) T.a_is_sized cdv An outer s H E) (defBody s_is_sized) (lowS K (WF E) (r_is_sized A)) :=
  (s_one (s_ret (d_and (d_callB call_isiA (l_isi T.ot) T.n_isinstance bt_isinstance (da_cons (dv 0) (da_cons (d_ty T.n_tuple bt_tuple) da_nil))) (d_one (d_chain op_le l_cmp op_le l_cmp (dv 1) (d_callB call_len l_len T.n_len bt_len (da_cons (dv 0) da_nil)) (dv 2))))))
theorem w_check_within (T : Tx K mg A) (G_is_within : FnD P w K mg base 2 T.a_is_within T.fd_is_within [Str.ofString "thing", Str.ofString "least", Str.ofString "most"] (sp_is_within A)) (cdv : Value) (An : Around) (outer : List Env) (s : Shared) (H : Hp) (E : XK) (hr : RoomG 2 (An.deeper (envOfC "check_within" (defScope s_check_within) s.heap.objs.size T.a_check_within cdv))) :
    PSs (cxOf (L2.CX P w) P w K mg base N_check_within "check_within" (defScope s_check_within) T.a_check_within cdv An outer s H E) (defBody s_check_within) (lowS K (WF E) (r_check_within A)) :=
  (s_one (s_if (t_not (t_val (d_call G_is_within (hr.mono (by decide)) T.m_is_within T.F_is_within.kp T.b_is_within tkF (da_cons (dv 0) (da_cons (dv 1) (da_cons (dv 2) da_nil)))))) (s_one (s_raise0 rfl tkF T.x_NoNumber T.m_NoNumber)) s_nil))
theorem w_is_row (T : Tx K mg A) (G_is_below : FnD P w K mg base 3 T.a_is_below T.fd_is_below [Str.ofString "thing", Str.ofString "many"] (sp_is_below A)) (cdv : Value) (An : Around) (outer : List Env) (s : Shared) (H : Hp) (E : XK) (hr : RoomG 3 (An.deeper (envOfC "is_row" (defScope s_is_row) s.heap.objs.size T.a_is_row cdv))) :
    PSs (cxOf (L2.CX P w) P w K mg base N_is_row "is_row" (defScope s_is_row) T.a_is_row cdv An outer s H E) (defBody s_is_row) (lowS K (WF E) (r_is_row A)) :=
  (s_one (s_ret (d_and (d_callB call_isiA (l_isi T.ot) T.n_isinstance bt_isinstance (da_cons (dv 0) (da_cons (d_ty T.n_tuple bt_tuple) da_nil))) (d_and (d_cmp op_le l_cmp (d_callB call_len l_len T.n_len bt_len (da_cons (dv 0) da_nil)) (d_glob T.m_MOST_BYTES T.v_MOST_BYTES)) (d_one (d_callB (cr_all rfl) l_all T.n_all bt_all (da_cons (d_frz (d_lc (own := [(Str.ofString "item", 1)]) rfl sc_is_row.nd (i_seq (dv 0)) (blkOk_by (N := N_is_row) (sc := defScope s_is_row) (by decide +kernel)) (fun _ _ _ _ _ => (pg_name (i := 1) sc_is_row.nd rfl (Or.inl rfl))) (ng_name (by decide)) (fun _ _ _ _ _ => c_nil) (fun _ _ _ _ _ => (d_call G_is_below (hr.mono (by decide)) T.m_is_below T.F_is_below.kp T.b_is_below takes0 (da_cons (dv 1) (da_cons (d_glob T.m_BYTE T.v_BYTE) da_nil)))))) da_nil)))))))
theorem w_check_row (T : Tx K mg A) (G_is_row : FnD P w K mg base 4 T.a_is_row T.fd_is_row [Str.ofString "thing"] (sp_is_row A)) (cdv : Value) (An : Around) (outer : List Env) (s : Shared) (H : Hp) (E : XK) (hr : RoomG 4 (An.deeper (envOfC "check_row" (defScope s_check_row) s.heap.objs.size T.a_check_row cdv))) :
    PSs (cxOf (L2.CX P w) P w K mg base N_check_row "check_row" (defScope s_check_row) T.a_check_row cdv An outer s H E) (defBody s_check_row) (lowS K (WF E) (r_check_row A)) :=
  (s_one (s_if (t_not (t_val (d_call G_is_row (hr.mono (by decide)) T.m_is_row T.F_is_row.kp T.b_is_row tkF (da_cons (dv 0) da_nil)))) (s_one (s_raise0 rfl tkF T.x_NoRow T.m_NoRow)) s_nil))
theorem w_Disk_init (T : Tx K mg A) (cdv : Value) (An : Around) (outer : List Env) (s : Shared) (H : Hp) (E : XK) (hr : RoomG 0 (An.deeper (envOfC "Disk.__init__" (defScope s_Disk_init) s.heap.objs.size T.a_Disk_init cdv))) :
    PSs (cxOf (L2.CX P w) P w K mg base N_Disk_init "Disk.__init__" (defScope s_Disk_init) T.a_Disk_init cdv An outer s H E) (defBody s_Disk_init) (lowS K (WF E) (r_Disk_init A)) :=
  (s_cons (s_setF (fcs_cons T.c_Disk T.na_Disk_rows fcs_nil) (dv 0) (d_lst da_nil))
    (s_one (s_setF (fcs_cons T.c_Disk T.na_Disk_lasting fcs_nil) (dv 0) d_int)))
theorem w_Disk_write (T : Tx K mg A) (G_check_row : FnD P w K mg base 5 T.a_check_row T.fd_check_row [Str.ofString "thing"] (sp_check_row A)) (cdv : Value) (An : Around) (outer : List Env) (s : Shared) (H : Hp) (E : XK) (hr : RoomG 5 (An.deeper (envOfC "Disk.write" (defScope s_Disk_write) s.heap.objs.size T.a_Disk_write cdv))) :
    PSs (cxOf (L2.CX P w) P w K mg base N_Disk_write "Disk.write" (defScope s_Disk_write) T.a_Disk_write cdv An outer s H E) (defBody s_Disk_write) (lowS K (WF E) (r_Disk_write A)) :=
  (s_cons (s_expr (d_call G_check_row (hr.mono (by decide)) T.m_check_row T.F_check_row.kp T.b_check_row tkF (da_cons (dv 1) da_nil)))
    (s_cons (s_expr (d_bm PySem.F.slot_list_append PySem.F.type_list_append mt_append l_append (d_fld (fcs_cons T.c_Disk T.na_Disk_rows fcs_nil) (dv 0)) (da_cons (dv 1) da_nil)))
    (s_one (s_ret (d_op op_sub l_sub (d_callB call_len l_len T.n_len bt_len (da_cons (d_fld (fcs_cons T.c_Disk T.na_Disk_rows fcs_nil) (dv 0)) da_nil)) d_int)))))
theorem w_Disk_sync (T : Tx K mg A) (cdv : Value) (An : Around) (outer : List Env) (s : Shared) (H : Hp) (E : XK) (hr : RoomG 0 (An.deeper (envOfC "Disk.sync" (defScope s_Disk_sync) s.heap.objs.size T.a_Disk_sync cdv))) :
    PSs (cxOf (L2.CX P w) P w K mg base N_Disk_sync "Disk.sync" (defScope s_Disk_sync) T.a_Disk_sync cdv An outer s H E) (defBody s_Disk_sync) (lowS K (WF E) (r_Disk_sync A)) :=
  (s_cons (s_set 1 sc_Disk_sync.nd (d_op op_sub l_sub (d_callB call_len l_len T.n_len bt_len (da_cons (d_fld (fcs_cons T.c_Disk T.na_Disk_rows fcs_nil) (dv 0)) da_nil)) (d_fld (fcs_cons T.c_Disk T.na_Disk_lasting fcs_nil) (dv 0))))
    (s_cons (s_setF (fcs_cons T.c_Disk T.na_Disk_lasting fcs_nil) (dv 0) (d_callB call_len l_len T.n_len bt_len (da_cons (d_fld (fcs_cons T.c_Disk T.na_Disk_rows fcs_nil) (dv 0)) da_nil)))
    (s_one (s_ret (dv 1)))))
theorem w_Disk_blocks (T : Tx K mg A) (cdv : Value) (An : Around) (outer : List Env) (s : Shared) (H : Hp) (E : XK) (hr : RoomG 0 (An.deeper (envOfC "Disk.blocks" (defScope s_Disk_blocks) s.heap.objs.size T.a_Disk_blocks cdv))) :
    PSs (cxOf (L2.CX P w) P w K mg base N_Disk_blocks "Disk.blocks" (defScope s_Disk_blocks) T.a_Disk_blocks cdv An outer s H E) (defBody s_Disk_blocks) (lowS K (WF E) (r_Disk_blocks A)) :=
  (s_one (s_ret (d_callTy call_list_of l_list T.n_list bt_list (da_cons (d_fld (fcs_cons T.c_Disk T.na_Disk_rows fcs_nil) (dv 0)) da_nil))))
theorem w_Disk_synced (T : Tx K mg A) (cdv : Value) (An : Around) (outer : List Env) (s : Shared) (H : Hp) (E : XK) (hr : RoomG 0 (An.deeper (envOfC "Disk.synced" (defScope s_Disk_synced) s.heap.objs.size T.a_Disk_synced cdv))) :
    PSs (cxOf (L2.CX P w) P w K mg base N_Disk_synced "Disk.synced" (defScope s_Disk_synced) T.a_Disk_synced cdv An outer s H E) (defBody s_Disk_synced) (lowS K (WF E) (r_Disk_synced A)) :=
  (s_one (s_ret (d_fld (fcs_cons T.c_Disk T.na_Disk_lasting fcs_nil) (dv 0))))
theorem w_Disk_cut (T : Tx K mg A) (G_is_within : FnD P w K mg base 2 T.a_is_within T.fd_is_within [Str.ofString "thing", Str.ofString "least", Str.ofString "most"] (sp_is_within A)) (G_is_sized : FnD P w K mg base 1 T.a_is_sized T.fd_is_sized [Str.ofString "thing", Str.ofString "least", Str.ofString "most"] (sp_is_sized A)) (cdv : Value) (An : Around) (outer : List Env) (s : Shared) (H : Hp) (E : XK) (hr : RoomG 2 (An.deeper (envOfC "Disk.cut" (defScope s_Disk_cut) s.heap.objs.size T.a_Disk_cut cdv))) :
    PSs (cxOf (L2.CX P w) P w K mg base N_Disk_cut "Disk.cut" (defScope s_Disk_cut) T.a_Disk_cut cdv An outer s H E) (defBody s_Disk_cut) (lowS K (WF E) (r_Disk_cut A)) :=
  (s_cons (s_set 2 sc_Disk_cut.nd (d_slV (d_fld (fcs_cons T.c_Disk T.na_Disk_rows fcs_nil) (dv 0)) (o_some (d_fld (fcs_cons T.c_Disk T.na_Disk_lasting fcs_nil) (dv 0))) o_none))
    (s_cons (s_if (t_not (t_val (d_call G_is_sized (hr.mono (by decide)) T.m_is_sized T.F_is_sized.kp T.b_is_sized tkF (da_cons (dv 1) (da_cons (d_callB call_len l_len T.n_len bt_len (da_cons (dv 2) da_nil)) (da_cons (d_callB call_len l_len T.n_len bt_len (da_cons (dv 2) da_nil)) da_nil)))))) (s_one (s_raise0 rfl tkF T.x_NoCut T.m_NoCut)) s_nil)
    (s_cons (s_if (t_not (t_val (d_callB (cr_all rfl) l_all T.n_all bt_all (da_cons (d_frz (d_lc (own := [(Str.ofString "many", 3), (Str.ofString "row", 4)]) rfl sc_Disk_cut.nd (i_zipM T.n_zip (da_cons (dv 1) (da_cons (dv 2) da_nil))) (blkOk_by (N := N_Disk_cut) (sc := defScope s_Disk_cut) (by decide +kernel)) (fun _ _ _ _ _ => (pg_tup rfl (pgs_cons (pg_name (i := 3) sc_Disk_cut.nd rfl (Or.inl rfl)) (pgs_cons (pg_name (i := 4) sc_Disk_cut.nd rfl (Or.inl rfl)) pgs_nil)))) (ng_tup (ngs_cons (ng_name (by decide)) (ngs_cons (ng_name (by decide)) ngs_nil))) (fun _ _ _ _ _ => c_nil) (fun _ _ _ _ _ => (d_call G_is_within (hr.mono (by decide)) T.m_is_within T.F_is_within.kp T.b_is_within takes0 (da_cons (dv 3) (da_cons d_int (da_cons (d_callB call_len l_len T.n_len bt_len (da_cons (dv 4) da_nil)) da_nil))))))) da_nil)))) (s_one (s_raise0 rfl tkF T.x_NoCut T.m_NoCut)) s_nil)
    (s_cons (s_setF (fcs_cons T.c_Disk T.na_Disk_rows fcs_nil) (dv 0) (d_op op_addA l_add (d_slV (d_fld (fcs_cons T.c_Disk T.na_Disk_rows fcs_nil) (dv 0)) o_none (o_some (d_fld (fcs_cons T.c_Disk T.na_Disk_lasting fcs_nil) (dv 0)))) (d_frz (d_lc (own := [(Str.ofString "many", 3), (Str.ofString "row", 4)]) rfl sc_Disk_cut.nd (i_zipM T.n_zip (da_cons (dv 1) (da_cons (dv 2) da_nil))) (blkOk_by (N := N_Disk_cut) (sc := defScope s_Disk_cut) (by decide +kernel)) (fun _ _ _ _ _ => (pg_tup rfl (pgs_cons (pg_name (i := 3) sc_Disk_cut.nd rfl (Or.inl rfl)) (pgs_cons (pg_name (i := 4) sc_Disk_cut.nd rfl (Or.inl rfl)) pgs_nil)))) (ng_tup (ngs_cons (ng_name (by decide)) (ngs_cons (ng_name (by decide)) ngs_nil))) (fun _ _ _ _ _ => c_nil) (fun _ _ _ _ _ => (d_slV (dv 4) o_none (o_some (dv 3))))))))
    (s_one (s_setF (fcs_cons T.c_Disk T.na_Disk_lasting fcs_nil) (dv 0) (d_callB call_len l_len T.n_len bt_len (da_cons (d_fld (fcs_cons T.c_Disk T.na_Disk_rows fcs_nil) (dv 0)) da_nil))))))))
theorem w_Disk_drop (T : Tx K mg A) (G_check_within : FnD P w K mg base 3 T.a_check_within T.fd_check_within [Str.ofString "thing", Str.ofString "least", Str.ofString "most"] (sp_check_within A)) (cdv : Value) (An : Around) (outer : List Env) (s : Shared) (H : Hp) (E : XK) (hr : RoomG 3 (An.deeper (envOfC "Disk.drop" (defScope s_Disk_drop) s.heap.objs.size T.a_Disk_drop cdv))) :
    PSs (cxOf (L2.CX P w) P w K mg base N_Disk_drop "Disk.drop" (defScope s_Disk_drop) T.a_Disk_drop cdv An outer s H E) (defBody s_Disk_drop) (lowS K (WF E) (r_Disk_drop A)) :=
  (s_cons (s_expr (d_call G_check_within (hr.mono (by decide)) T.m_check_within T.F_check_within.kp T.b_check_within tkF (da_cons (dv 1) (da_cons d_int (da_cons (d_callB call_len l_len T.n_len bt_len (da_cons (d_fld (fcs_cons T.c_Disk T.na_Disk_rows fcs_nil) (dv 0)) da_nil)) da_nil)))))
    (s_cons (s_setF (fcs_cons T.c_Disk T.na_Disk_rows fcs_nil) (dv 0) (d_sl (d_fld (fcs_cons T.c_Disk T.na_Disk_rows fcs_nil) (dv 0)) o_none (o_some (dv 1))))
    (s_one (s_setF (fcs_cons T.c_Disk T.na_Disk_lasting fcs_nil) (dv 0) (d_callB (call_minA rfl) l_minL T.n_min bt_min (da_cons (d_fld (fcs_cons T.c_Disk T.na_Disk_lasting fcs_nil) (dv 0)) (da_cons (dv 1) da_nil)))))))
theorem w_Disk_copy (T : Tx K mg A) (G_Disk_init : FnD P w K mg base 1 T.a_Disk_init T.fd_Disk_init [Str.ofString "self"] (sp_Disk_init A)) (cdv : Value) (An : Around) (outer : List Env) (s : Shared) (H : Hp) (E : XK) (hr : RoomG 2 (An.deeper (envOfC "Disk.copy" (defScope s_Disk_copy) s.heap.objs.size T.a_Disk_copy cdv))) :
    PSs (cxOf (L2.CX P w) P w K mg base N_Disk_copy "Disk.copy" (defScope s_Disk_copy) T.a_Disk_copy cdv An outer s H E) (defBody s_Disk_copy) (lowS K (WF E) (r_Disk_copy A)) :=
  (s_cons (s_set 1 sc_Disk_copy.nd (d_mkM0 (mk_Disk A) T.mk_Disk G_Disk_init (hr.mono (by decide)) T.m_Disk T.b_Disk_init tkF))
    (s_cons (s_setF (fcs_cons T.c_Disk T.na_Disk_rows fcs_nil) (dv 1) (d_callTy call_list_of l_list T.n_list bt_list (da_cons (d_fld (fcs_cons T.c_Disk T.na_Disk_rows fcs_nil) (dv 0)) da_nil)))
    (s_cons (s_setF (fcs_cons T.c_Disk T.na_Disk_lasting fcs_nil) (dv 1) (d_fld (fcs_cons T.c_Disk T.na_Disk_lasting fcs_nil) (dv 0)))
    (s_one (s_ret (dv 1))))))
theorem w__law_pool (T : Tx K mg A) (cdv : Value) (An : Around) (outer : List Env) (s : Shared) (H : Hp) (E : XK) (hr : RoomG 0 (An.deeper (envOfC "_law_pool" (defScope s__law_pool) s.heap.objs.size T.a__law_pool cdv))) :
    PSs (cxOf (L2.CX P w) P w K mg base N__law_pool "_law_pool" (defScope s__law_pool) T.a__law_pool cdv An outer s H E) (defBody s__law_pool) (lowS K (WF E) (r__law_pool A)) :=
  (s_cons (s_set 1 sc__law_pool.nd (d_opV op_addA l_addV (d_opV op_addA l_addV (d_op op_mod l_mod (d_callTy call_int1 l_int T.n_int bt_int (da_cons (d_callB (cr_sum rfl) l_sum T.n_sum bt_sum (da_cons (d_slV (dv 0) o_none (o_some d_int)) da_nil)) da_nil)) d_int) (d_callB call_len l_len T.n_len bt_len (da_cons (dv 0) da_nil))) d_int))
    (s_cons (s_for (passes_of rfl) rfl (i_seq (d_slV (dv 0) o_none (o_some d_int))) (g_name 2 sc__law_pool.nd) (s_one (s_set 1 sc__law_pool.nd (d_op op_mod l_mod (d_callTy call_int1 l_int T.n_int bt_int (da_cons (d_opV op_addA l_addV (d_opV op_addA l_addV (d_opV op_mulB l_mulV (dv 1) d_int) (d_op op_mod l_mod (d_callTy call_int1 l_int T.n_int bt_int (da_cons (dv 2) da_nil)) d_int)) d_int) da_nil)) d_int))))
    (s_one (s_ret (d_lst (da_cons (dv 1) (da_cons d_int (da_cons (d_lc (own := [(Str.ofString "_law_cell", 2)]) rfl sc__law_pool.nd (i_seq (d_slV (dv 0) o_none (o_some d_int))) (blkOk_by (N := N__law_pool) (sc := defScope s__law_pool) (by decide +kernel)) (fun _ _ _ _ _ => (pg_name (i := 2) sc__law_pool.nd rfl (Or.inl rfl))) (ng_name (by decide)) (fun _ _ _ _ _ => (c_one (t_cmp op_ge l_cmp (d_callB call_abs l_abs T.n_abs bt_abs (da_cons (dv 2) da_nil)) (d_op op_pow l_pow d_int d_int)))) (fun _ _ _ _ _ => (d_callB call_abs l_abs T.n_abs bt_abs (da_cons (dv 2) da_nil)))) da_nil))))))))
theorem w__law_draw (T : Tx K mg A) (cdv : Value) (An : Around) (outer : List Env) (s : Shared) (H : Hp) (E : XK) (hr : RoomG 0 (An.deeper (envOfC "_law_draw" (defScope s__law_draw) s.heap.objs.size T.a__law_draw cdv))) :
    PSs (cxOf (L2.CX P w) P w K mg base N__law_draw "_law_draw" (defScope s__law_draw) T.a__law_draw cdv An outer s H E) (defBody s__law_draw) (lowS K (WF E) (r__law_draw A)) :=
  (s_cons (s_asg (d_opV op_addA l_addV (d_ix (dv 0) d_int) d_int) (g_sub (W := W0) set_list l_set (dv 0) d_int))
    (s_cons (s_set 2 sc__law_draw.nd (d_ix (dv 0) d_int))
    (s_cons (s_if (t_cmp op_gt l_cmp (d_callB call_len l_len T.n_len bt_len (da_cons (dv 2) da_nil)) d_int) (s_cons (s_set 3 sc__law_draw.nd (d_op op_mod l_mod (d_callTy call_int1 l_int T.n_int bt_int (da_cons (d_ix (dv 2) d_int) da_nil)) (dv 1)))
    (s_cons (s_asg (d_op op_divP l_div (d_callTy call_int1 l_int T.n_int bt_int (da_cons (d_ix (dv 2) d_int) da_nil)) (dv 1)) (g_sub (W := W0) set_list l_set (dv 2) d_int))
    (s_cons (s_if (t_cmp (op_eqA hr.units) l_eq (d_ix (dv 2) d_int) d_int) (s_one (s_expr (d_bm PySem.F.slot_list_pop PySem.F.type_list_pop mt_popR l_popAt (dv 2) (da_cons d_int da_nil)))) s_nil)
    (s_one (s_ret (dv 3)))))) s_nil)
    (s_cons (s_set 4 sc__law_draw.nd (d_op op_mod l_mod (d_callTy call_int1 l_int T.n_int bt_int (da_cons (d_opV op_mulB l_mulV (d_opV op_addA l_addV (d_ix (dv 0) d_int) (d_opV op_mulB l_mulV d_int (d_ix (dv 0) d_int))) d_int) da_nil)) d_int))
    (s_cons (s_set 4 sc__law_draw.nd (d_op op_mod l_mod (d_callTy call_int1 l_int T.n_int bt_int (da_cons (d_opV op_mulB l_mulV (dv 4) (d_opV op_addA l_addV (d_op op_divP l_div (dv 4) d_int) d_int)) da_nil)) d_int))
    (s_cons (s_set 4 sc__law_draw.nd (d_op op_mod l_mod (d_callTy call_int1 l_int T.n_int bt_int (da_cons (d_opV op_mulB l_mulV (dv 4) (d_opV op_addA l_addV (d_op op_divP l_div (dv 4) d_int) d_int)) da_nil)) d_int))
    (s_one (s_ret (d_op op_mod l_mod (d_callTy call_int1 l_int T.n_int bt_int (da_cons (d_op op_divP l_div (dv 4) d_int) da_nil)) (dv 1))))))))))
theorem w__law_deep (T : Tx K mg A) (cdv : Value) (An : Around) (outer : List Env) (s : Shared) (H : Hp) (E : XK) (hr : RoomG 0 (An.deeper (envOfC "_law_deep" (defScope s__law_deep) s.heap.objs.size T.a__law_deep cdv))) :
    PSs (cxOf (L2.CX P w) P w K mg base N__law_deep "_law_deep" (defScope s__law_deep) T.a__law_deep cdv An outer s H E) (defBody s__law_deep) (lowS K (WF E) (r__law_deep A)) :=
  (s_cons (s_set 0 sc__law_deep.nd (d_lstV (da_cons d_non da_nil)))
    (s_cons (s_for (passes_of rfl) rfl (i_r1 T.n_range (da_cons d_int da_nil)) (g_name 1 sc__law_deep.nd) (s_one (s_set 0 sc__law_deep.nd (d_lstV (da_cons (dv 0) da_nil)))))
    (s_one (s_ret (dv 0)))))
theorem w__law_is (T : Tx K mg A) (cdv : Value) (An : Around) (outer : List Env) (s : Shared) (H : Hp) (E : XK) (hr : RoomG 0 (An.deeper (envOfC "_law_is" (defScope s__law_is) s.heap.objs.size T.a__law_is cdv))) :
    PSs (cxOf (L2.CX P w) P w K mg base N__law_is "_law_is" (defScope s__law_is) T.a__law_is cdv An outer s H E) (defBody s__law_is) (lowS K (WF E) (r__law_is A)) :=
  (s_one (s_ret (d_cmp (op_eqA hr.units) l_eq (d_callB (call_reprD hr.g hr.u80) l_repr T.n_repr bt_repr (da_cons (dv 0) da_nil)) (d_callB (call_reprD hr.g hr.u80) l_repr T.n_repr bt_repr (da_cons (dv 1) da_nil)))))
theorem w__law_is_row (T : Tx K mg A) (cdv : Value) (An : Around) (outer : List Env) (s : Shared) (H : Hp) (E : XK) (hr : RoomG 0 (An.deeper (envOfC "_law_is_row" (defScope s__law_is_row) s.heap.objs.size T.a__law_is_row cdv))) :
    PSs (cxOf (L2.CX P w) P w K mg base N__law_is_row "_law_is_row" (defScope s__law_is_row) T.a__law_is_row cdv An outer s H E) (defBody s__law_is_row) (lowS K (WF E) (r__law_is_row A)) :=
  (s_cons (s_if (t_not (t_val (d_callB call_isiA (l_isi T.ot) T.n_isinstance bt_isinstance (da_cons (dv 0) (da_cons (d_ty T.n_tuple bt_tuple) da_nil))))) (s_one (s_ret d_bl)) s_nil)
    (s_one (s_ret (d_callB (cr_all rfl) l_all T.n_all bt_all (da_cons (d_frz (d_lc (own := [(Str.ofString "_law_one", 1)]) rfl sc__law_is_row.nd (i_seq (dv 0)) (blkOk_by (N := N__law_is_row) (sc := defScope s__law_is_row) (by decide +kernel)) (fun _ _ _ _ _ => (pg_name (i := 1) sc__law_is_row.nd rfl (Or.inl rfl))) (ng_name (by decide)) (fun _ _ _ _ _ => c_nil) (fun _ _ _ _ _ => (d_and (d_callB call_isiA (l_isi T.ot) T.n_isinstance bt_isinstance (da_cons (dv 1) (da_cons (d_ty T.n_int bt_int) da_nil))) (d_and (d_not (d_callB call_isiA (l_isi T.ot) T.n_isinstance bt_isinstance (da_cons (dv 1) (da_cons (d_ty T.n_bool bt_bool) da_nil)))) (d_one (d_chain op_le l_cmp op_lt l_cmp d_int (dv 1) d_int))))))) da_nil)))))
theorem w__law_word (T : Tx K mg A) (G_Disk_write : FnD P w K mg base 6 T.a_Disk_write T.fd_Disk_write [Str.ofString "self", Str.ofString "row"] (sp_Disk_write A)) (G_Disk_cut : FnD P w K mg base 3 T.a_Disk_cut T.fd_Disk_cut [Str.ofString "self", Str.ofString "kept"] (sp_Disk_cut A)) (G_Disk_drop : FnD P w K mg base 4 T.a_Disk_drop T.fd_Disk_drop [Str.ofString "self", Str.ofString "number"] (sp_Disk_drop A)) (cdv : Value) (An : Around) (outer : List Env) (s : Shared) (H : Hp) (E : XK) (hr : RoomG 6 (An.deeper (envOfC "_law_word" (defScope s__law_word) s.heap.objs.size T.a__law_word cdv))) :
    PSs (cxOf (L2.CX P w) P w K mg base N__law_word "_law_word" (defScope s__law_word) T.a__law_word cdv An outer s H E) (defBody s__law_word) (lowS K (WF E) (r__law_word A)) :=
  (s_cons (s_set 3 sc__law_word.nd (d_tup (da_cons d_str (da_cons d_non da_nil))))
    (s_cons (s_take 4 sc__law_word.nd (nm_own T.m_WorldError) (tabs_cons T.e_NoNumber_WorldError (tabs_cons T.e_NoRow_WorldError (tabs_cons T.e_NoCut_WorldError tabs_nil))) (fun W2 pn2 xe2 tk2 => (s_one (s_if (t_cmp (op_eqA hr.units) l_eq (dv 1) d_int) (s_one (s_set 3 sc__law_word.nd (d_tup (da_cons d_str (da_cons (d_meth (k := 6) (mts_cons (mt_mk T.c_Disk T.me_Disk_write G_Disk_write T.b_Disk_write (by decide)) mts_nil) (hr.mono (by decide)) tk2 (dv 0) (da_cons (dv 2) da_nil)) da_nil))))) (s_one (s_if (t_cmp (op_eqA hr.units) l_eq (dv 1) d_int) (s_one (s_set 3 sc__law_word.nd (d_tup (da_cons d_str (da_cons (d_meth (k := 3) (mts_cons (mt_mk T.c_Disk T.me_Disk_cut G_Disk_cut T.b_Disk_cut (by decide)) mts_nil) (hr.mono (by decide)) tk2 (dv 0) (da_cons (dv 2) da_nil)) da_nil))))) (s_one (s_set 3 sc__law_word.nd (d_tup (da_cons d_str (da_cons (d_meth (k := 4) (mts_cons (mt_mk T.c_Disk T.me_Disk_drop G_Disk_drop T.b_Disk_drop (by decide)) mts_nil) (hr.mono (by decide)) tk2 (dv 0) (da_cons (dv 2) da_nil)) da_nil)))))))))) (fun ea oe ecls eda pn hz hf => (s_cons (s_set 5 sc__law_word.nd (d_lstV (da_cons (d_callB (call_isX (isx_cons T.xe_NoNumber T.ki_NoNumber_NoRow (isx_cons T.xe_NoRow T.ki_NoRow_NoRow (isx_cons T.xe_NoCut T.ki_NoCut_NoRow isx_nil))) hz hf) l_isE T.n_isinstance bt_isinstance (da_cons (dv 4) (da_cons (d_glob T.m_NoRow v_ref) da_nil))) (da_cons (d_callB (call_isX (isx_cons T.xe_NoNumber T.ki_NoNumber_NoCut (isx_cons T.xe_NoRow T.ki_NoRow_NoCut (isx_cons T.xe_NoCut T.ki_NoCut_NoCut isx_nil))) hz hf) l_isE T.n_isinstance bt_isinstance (da_cons (dv 4) (da_cons (d_glob T.m_NoCut v_ref) da_nil))) (da_cons (d_callB (call_isX (isx_cons T.xe_NoNumber T.ki_NoNumber_NoNumber (isx_cons T.xe_NoRow T.ki_NoRow_NoNumber (isx_cons T.xe_NoCut T.ki_NoCut_NoNumber isx_nil))) hz hf) l_isE T.n_isinstance bt_isinstance (da_cons (dv 4) (da_cons (d_glob T.m_NoNumber v_ref) da_nil))) da_nil)))))
    (s_one (s_if (PW.pt (t_and (t_cmp (op_eqA hr.units) l_eq (d_bml PySem.F.slot_list_count PySem.F.type_list_count mt_cntB l_cntB (dv 5) (da_cons d_bl da_nil)) d_int) (t_and1 (t_val (d_callB (call_isX (isx_cons T.xe_NoNumber T.ki_NoNumber_ValueError (isx_cons T.xe_NoRow T.ki_NoRow_ValueError (isx_cons T.xe_NoCut T.ki_NoCut_ValueError isx_nil))) hz hf) l_isE T.n_isinstance bt_isinstance (da_cons (dv 4) (da_cons (d_ty T.n_ValueError bt_ValueError) da_nil))))))) (s_one (s_set 3 sc__law_word.nd (d_tup (da_cons (d_ix (d_lstV (da_cons d_str (da_cons d_str (da_cons d_str da_nil)))) (d_bml PySem.F.slot_list_index PySem.F.type_list_index mt_index l_idxL (dv 5) (da_cons d_bl da_nil))) (da_cons d_non da_nil))))) s_nil)))))
    (s_one (s_ret (dv 3)))))
theorem w__law_is_cut (T : Tx K mg A) (cdv : Value) (An : Around) (outer : List Env) (s : Shared) (H : Hp) (E : XK) (hr : RoomG 0 (An.deeper (envOfC "_law_is_cut" (defScope s__law_is_cut) s.heap.objs.size T.a__law_is_cut cdv))) :
    PSs (cxOf (L2.CX P w) P w K mg base N__law_is_cut "_law_is_cut" (defScope s__law_is_cut) T.a__law_is_cut cdv An outer s H E) (defBody s__law_is_cut) (lowS K (WF E) (r__law_is_cut A)) :=
  (s_cons (s_if (PW.pt (t_or (t_not (t_val (d_callB call_isiA (l_isi T.ot) T.n_isinstance bt_isinstance (da_cons (dv 2) (da_cons (d_ty T.n_tuple bt_tuple) da_nil))))) (t_or1 (t_cmp (op_neA hr.units) l_eq (d_callB call_len l_len T.n_len bt_len (da_cons (dv 2) da_nil)) (d_op op_sub l_sub (d_callB call_len l_len T.n_len bt_len (da_cons (dv 0) da_nil)) (dv 1)))))) (s_one (s_ret d_bl)) s_nil)
    (s_cons (s_for (passes_of rfl) rfl (i_zipM T.n_zip (da_cons (dv 2) (da_cons (d_slV (dv 0) (o_some (dv 1)) o_none) da_nil))) (g_tup (n := 2) rfl (g_cons (g_name 3 sc__law_is_cut.nd) (g_cons (g_name 4 sc__law_is_cut.nd) g_nil))) (s_one (s_if (PW.pt (t_or (t_not (t_val (d_callB call_isiA (l_isi T.ot) T.n_isinstance bt_isinstance (da_cons (dv 3) (da_cons (d_ty T.n_int bt_int) da_nil))))) (t_or (t_val (d_callB call_isiA (l_isi T.ot) T.n_isinstance bt_isinstance (da_cons (dv 3) (da_cons (d_ty T.n_bool bt_bool) da_nil)))) (t_or1 (t_not (t_chain op_le l_cmp op_le l_cmp d_int (dv 3) (d_callB call_len l_len T.n_len bt_len (da_cons (dv 4) da_nil)))))))) (s_one (s_ret d_bl)) s_nil)))
    (s_one (s_ret d_bl))))
theorem w__law_odd (T : Tx K mg A) (G__law_draw : FnD P w K mg base 1 T.a__law_draw T.fd__law_draw [Str.ofString "_law_pool_here", Str.ofString "_law_many"] (sp__law_draw A)) (G__law_deep : FnD P w K mg base 1 T.a__law_deep T.fd__law_deep [] (sp__law_deep A)) (cdv : Value) (An : Around) (outer : List Env) (s : Shared) (H : Hp) (E : XK) (hr : RoomG 1 (An.deeper (envOfC "_law_odd" (defScope s__law_odd) s.heap.objs.size T.a__law_odd cdv))) :
    PSs (cxOf (L2.CX P w) P w K mg base N__law_odd "_law_odd" (defScope s__law_odd) T.a__law_odd cdv An outer s H E) (defBody s__law_odd) (lowS K (WF E) (r__law_odd A)) :=
  (s_cons (s_set 2 sc__law_odd.nd (d_call G__law_draw (hr.mono (by decide)) T.m__law_draw T.F__law_draw.kp T.b__law_draw tkF (da_cons (dv 0) (da_cons (d_opV op_addA l_addV (d_callB call_len l_len T.n_len bt_len (da_cons (dv 1) da_nil)) d_int) da_nil))))
    (s_cons (s_set 3 sc__law_odd.nd (d_ix (d_lstV (da_cons d_int (da_cons (d_neg d_int) (da_cons d_bl (da_cons d_non (da_cons d_str (da_cons (d_tup (da_cons d_int da_nil)) (da_cons (d_op op_pow l_pow d_int d_int) (da_cons (d_call0 G__law_deep (hr.mono (by decide)) T.m__law_deep T.F__law_deep.kp T.b__law_deep tkF) (da_cons d_int da_nil)))))))))) (d_call G__law_draw (hr.mono (by decide)) T.m__law_draw T.F__law_draw.kp T.b__law_draw tkF (da_cons (dv 0) (da_cons d_int da_nil)))))
    (s_one (s_ret (d_ix (d_lstV (da_cons (d_opV op_addA l_addV (d_opV op_addA l_addV (d_slV (dv 1) o_none (o_some (dv 2))) (d_tup (da_cons (dv 3) da_nil))) (d_slV (dv 1) (o_some (d_opV op_addA l_addV (dv 2) d_int)) o_none)) (da_cons (d_callTyV call_list_of l_listV T.n_list bt_list (da_cons (dv 1) da_nil)) (da_cons (d_opV op_addA l_addV (dv 1) (d_tup (da_cons (dv 3) da_nil))) (da_cons d_non (da_cons (dv 3) (da_cons d_str (da_cons d_dict0 da_nil)))))))) (d_call G__law_draw (hr.mono (by decide)) T.m__law_draw T.F__law_draw.kp T.b__law_draw tkF (da_cons (dv 0) (da_cons d_int da_nil))))))))
theorem w__law_led (T : Tx K mg A) (G_Disk_sync : FnD P w K mg base 1 T.a_Disk_sync T.fd_Disk_sync [Str.ofString "self"] (sp_Disk_sync A)) (G_Disk_blocks : FnD P w K mg base 1 T.a_Disk_blocks T.fd_Disk_blocks [Str.ofString "self"] (sp_Disk_blocks A)) (G_Disk_synced : FnD P w K mg base 1 T.a_Disk_synced T.fd_Disk_synced [Str.ofString "self"] (sp_Disk_synced A)) (G__law_draw : FnD P w K mg base 1 T.a__law_draw T.fd__law_draw [Str.ofString "_law_pool_here", Str.ofString "_law_many"] (sp__law_draw A)) (G__law_is : FnD P w K mg base 1 T.a__law_is T.fd__law_is [Str.ofString "_law_told", Str.ofString "_law_due"] (sp__law_is A)) (G__law_is_row : FnD P w K mg base 1 T.a__law_is_row T.fd__law_is_row [Str.ofString "_law_thing"] (sp__law_is_row A)) (G__law_word : FnD P w K mg base 7 T.a__law_word T.fd__law_word [Str.ofString "_law_disk", Str.ofString "_law_which", Str.ofString "_law_thing"] (sp__law_word A)) (G__law_is_cut : FnD P w K mg base 1 T.a__law_is_cut T.fd__law_is_cut [Str.ofString "_law_blocks", Str.ofString "_law_synced", Str.ofString "_law_thing"] (sp__law_is_cut A)) (G__law_odd : FnD P w K mg base 2 T.a__law_odd T.fd__law_odd [Str.ofString "_law_pool_here", Str.ofString "_law_things"] (sp__law_odd A)) (cdv : Value) (An : Around) (outer : List Env) (s : Shared) (H : Hp) (E : XK) (hr : RoomG 7 (An.deeper (envOfC "_law_led" (defScope s__law_led) s.heap.objs.size T.a__law_led cdv))) :
    PSs (cxOf (L2.CX P w) P w K mg base N__law_led "_law_led" (defScope s__law_led) T.a__law_led cdv An outer s H E) (defBody s__law_led) (lowS K (WF E) (r__law_led A)) :=
  (s_cons (s_for (passes_of rfl) rfl (i_r1 T.n_range (da_cons (dv 4) da_nil)) (g_name 5 sc__law_led.nd) (s_cons (s_set 6 sc__law_led.nd (d_call G__law_draw (hr.mono (by decide)) T.m__law_draw T.F__law_draw.kp T.b__law_draw tkF (da_cons (dv 0) (da_cons d_int da_nil))))
    (s_cons (s_if (t_cmp op_lt l_cmp (dv 6) d_int) (s_cons (s_set 7 sc__law_led.nd (d_callTy call_tuple_of l_tuple T.n_tuple bt_tuple (da_cons (d_frz (d_lc (own := [(Str.ofString "_law_byte", 12)]) rfl sc__law_led.nd (i_r1 T.n_range (da_cons (d_call G__law_draw (hr.mono (by decide)) T.m__law_draw T.F__law_draw.kp T.b__law_draw tkF (da_cons (dv 0) (da_cons d_int da_nil))) da_nil)) (blkOk_by (N := N__law_led) (sc := defScope s__law_led) (by decide +kernel)) (fun _ _ _ _ _ => (pg_name (i := 12) sc__law_led.nd rfl (Or.inl rfl))) (ng_name (by decide)) (fun _ _ _ _ _ => c_nil) (fun _ _ _ _ _ => (d_call G__law_draw (hr.mono (by decide)) T.m__law_draw T.F__law_draw.kp T.b__law_draw takes0 (da_cons (dv 0) (da_cons d_int da_nil)))))) da_nil)))
    (s_cons (s_set 8 sc__law_led.nd (d_ifExp (t_cmp (op_eqA hr.units) l_eq (d_call G__law_draw (hr.mono (by decide)) T.m__law_draw T.F__law_draw.kp T.b__law_draw tkF (da_cons (dv 0) (da_cons d_int da_nil))) d_int) (d_call G__law_odd (hr.mono (by decide)) T.m__law_odd T.F__law_odd.kp T.b__law_odd tkF (da_cons (dv 0) (da_cons (dv 7) da_nil))) (dv 7)))
    (s_cons (s_set 9 sc__law_led.nd (d_ifExp (t_val (d_call G__law_is_row (hr.mono (by decide)) T.m__law_is_row T.F__law_is_row.kp T.b__law_is_row tkF (da_cons (dv 8) da_nil))) (d_tup (da_cons d_str (da_cons (d_callB call_len l_len T.n_len bt_len (da_cons (dv 2) da_nil)) da_nil))) (d_tup (da_cons d_str (da_cons d_non da_nil)))))
    (s_cons (s_if (t_cmp (op_neA hr.units) l_eq (d_call G__law_word (hr.mono (by decide)) T.m__law_word T.F__law_word.kp T.b__law_word tkF (da_cons (dv 1) (da_cons d_int (da_cons (dv 8) da_nil)))) (dv 9)) (s_one (s_ret d_non)) s_nil)
    (s_one (s_if (t_cmp (op_eqA hr.units) l_eq (d_ix (dv 9) d_int) d_str) (s_one (s_expr (d_bm PySem.F.slot_list_append PySem.F.type_list_append mt_append l_append (dv 2) (da_cons (dv 8) da_nil)))) s_nil)))))) (s_one (s_if (t_cmp (op_eqA hr.units) l_eq (dv 6) d_int) (s_cons (s_if (t_not (t_val (d_call G__law_is (hr.mono (by decide)) T.m__law_is T.F__law_is.kp T.b__law_is tkF (da_cons (d_meth0 (k := 1) (mts_cons (mt_mk T.c_Disk T.me_Disk_sync G_Disk_sync T.b_Disk_sync (by decide)) mts_nil) (hr.mono (by decide)) tkF (dv 1)) (da_cons (d_op op_sub l_sub (d_callB call_len l_len T.n_len bt_len (da_cons (dv 2) da_nil)) (dv 3)) da_nil))))) (s_one (s_ret d_non)) s_nil)
    (s_one (s_set 3 sc__law_led.nd (d_callB call_len l_len T.n_len bt_len (da_cons (dv 2) da_nil))))) (s_one (s_if (t_cmp (op_eqA hr.units) l_eq (dv 6) d_int) (s_cons (s_set 10 sc__law_led.nd (d_callTy call_tuple_of l_tuple T.n_tuple bt_tuple (da_cons (d_frz (d_lc (own := [(Str.ofString "_law_block", 13)]) rfl sc__law_led.nd (i_seq (d_slV (dv 2) (o_some (dv 3)) o_none)) (blkOk_by (N := N__law_led) (sc := defScope s__law_led) (by decide +kernel)) (fun _ _ _ _ _ => (pg_name (i := 13) sc__law_led.nd rfl (Or.inl rfl))) (ng_name (by decide)) (fun _ _ _ _ _ => c_nil) (fun _ _ _ _ _ => (d_call G__law_draw (hr.mono (by decide)) T.m__law_draw T.F__law_draw.kp T.b__law_draw takes0 (da_cons (dv 0) (da_cons (d_opV op_addA l_addV (d_callB call_len l_len T.n_len bt_len (da_cons (dv 13) da_nil)) d_int) da_nil)))))) da_nil)))
    (s_cons (s_set 8 sc__law_led.nd (d_ifExp (t_cmp (op_eqA hr.units) l_eq (d_call G__law_draw (hr.mono (by decide)) T.m__law_draw T.F__law_draw.kp T.b__law_draw tkF (da_cons (dv 0) (da_cons d_int da_nil))) d_int) (d_call G__law_odd (hr.mono (by decide)) T.m__law_odd T.F__law_odd.kp T.b__law_odd tkF (da_cons (dv 0) (da_cons (dv 10) da_nil))) (dv 10)))
    (s_cons (s_set 9 sc__law_led.nd (d_call G__law_is_cut (hr.mono (by decide)) T.m__law_is_cut T.F__law_is_cut.kp T.b__law_is_cut tkF (da_cons (dv 2) (da_cons (dv 3) (da_cons (dv 8) da_nil)))))
    (s_cons (s_if (t_cmp (op_neA hr.units) l_eq (d_call G__law_word (hr.mono (by decide)) T.m__law_word T.F__law_word.kp T.b__law_word tkF (da_cons (dv 1) (da_cons d_int (da_cons (dv 8) da_nil)))) (d_ifExp (t_val (dv 9)) (d_tup (da_cons d_str (da_cons d_non da_nil))) (d_tup (da_cons d_str (da_cons d_non da_nil))))) (s_one (s_ret d_non)) s_nil)
    (s_one (s_if (t_val (dv 9)) (s_cons (s_asg (d_frz (d_lc (own := [(Str.ofString "_law_block", 13), (Str.ofString "_law_length", 14)]) rfl sc__law_led.nd (i_zipM T.n_zip (da_cons (d_slV (dv 2) (o_some (dv 3)) o_none) (da_cons (dv 8) da_nil))) (blkOk_by (N := N__law_led) (sc := defScope s__law_led) (by decide +kernel)) (fun _ _ _ _ _ => (pg_tup rfl (pgs_cons (pg_name (i := 13) sc__law_led.nd rfl (Or.inl rfl)) (pgs_cons (pg_name (i := 14) sc__law_led.nd rfl (Or.inl rfl)) pgs_nil)))) (ng_tup (ngs_cons (ng_name (by decide)) (ngs_cons (ng_name (by decide)) ngs_nil))) (fun _ _ _ _ _ => c_nil) (fun _ _ _ _ _ => (d_slV (dv 13) o_none (o_some (dv 14)))))) (g_open (W := W0) (dv 2) (o_some (dv 3))))
    (s_one (s_set 3 sc__law_led.nd (d_callB call_len l_len T.n_len bt_len (da_cons (dv 2) da_nil))))) s_nil)))))) (s_one (s_if (t_cmp (op_eqA hr.units) l_eq (dv 6) d_int) (s_cons (s_set 11 sc__law_led.nd (d_ix (d_lstV (da_cons (d_call G__law_draw (hr.mono (by decide)) T.m__law_draw T.F__law_draw.kp T.b__law_draw tkF (da_cons (dv 0) (da_cons (d_opV op_addA l_addV (d_callB call_len l_len T.n_len bt_len (da_cons (dv 2) da_nil)) d_int) da_nil))) (da_cons (d_callB call_len l_len T.n_len bt_len (da_cons (dv 2) da_nil)) (da_cons (d_opV op_addA l_addV (d_callB call_len l_len T.n_len bt_len (da_cons (dv 2) da_nil)) d_int) (da_cons (d_neg d_int) (da_cons d_bl (da_cons d_non (da_cons d_str da_nil)))))))) (d_call G__law_draw (hr.mono (by decide)) T.m__law_draw T.F__law_draw.kp T.b__law_draw tkF (da_cons (dv 0) (da_cons d_int da_nil)))))
    (s_cons (s_set 9 sc__law_led.nd (d_and (d_callB call_isiA (l_isi T.ot) T.n_isinstance bt_isinstance (da_cons (dv 11) (da_cons (d_ty T.n_int bt_int) da_nil))) (d_and (d_not (d_callB call_isiA (l_isi T.ot) T.n_isinstance bt_isinstance (da_cons (dv 11) (da_cons (d_ty T.n_bool bt_bool) da_nil)))) (d_one (d_chain op_le l_cmp op_le l_cmp d_int (dv 11) (d_callB call_len l_len T.n_len bt_len (da_cons (dv 2) da_nil)))))))
    (s_cons (s_if (t_cmp (op_neA hr.units) l_eq (d_call G__law_word (hr.mono (by decide)) T.m__law_word T.F__law_word.kp T.b__law_word tkF (da_cons (dv 1) (da_cons d_int (da_cons (dv 11) da_nil)))) (d_ifExp (t_val (dv 9)) (d_tup (da_cons d_str (da_cons d_non da_nil))) (d_tup (da_cons d_str (da_cons d_non da_nil))))) (s_one (s_ret d_non)) s_nil)
    (s_one (s_if (t_val (dv 9)) (s_cons (s_asg (d_lstV da_nil) (g_open (W := W0) (dv 2) (o_some (dv 11))))
    (s_one (s_set 3 sc__law_led.nd (d_callB (call_minA rfl) l_minL T.n_min bt_min (da_cons (dv 3) (da_cons (dv 11) da_nil)))))) s_nil))))) s_nil)))))))
    (s_one (s_if (PW.pt (t_or (t_not (t_val (d_call G__law_is (hr.mono (by decide)) T.m__law_is T.F__law_is.kp T.b__law_is tkF (da_cons (d_meth0 (k := 1) (mts_cons (mt_mk T.c_Disk T.me_Disk_blocks G_Disk_blocks T.b_Disk_blocks (by decide)) mts_nil) (hr.mono (by decide)) tkF (dv 1)) (da_cons (dv 2) da_nil))))) (t_or1 (t_not (t_val (d_call G__law_is (hr.mono (by decide)) T.m__law_is T.F__law_is.kp T.b__law_is tkF (da_cons (d_meth0 (k := 1) (mts_cons (mt_mk T.c_Disk T.me_Disk_synced G_Disk_synced T.b_Disk_synced (by decide)) mts_nil) (hr.mono (by decide)) tkF (dv 1)) (da_cons (dv 3) da_nil)))))))) (s_one (s_ret d_non)) s_nil)))))
    (s_one (s_ret (dv 3))))
theorem w_law (T : Tx K mg A) (G_Disk_init : FnD P w K mg base 1 T.a_Disk_init T.fd_Disk_init [Str.ofString "self"] (sp_Disk_init A)) (G_Disk_blocks : FnD P w K mg base 1 T.a_Disk_blocks T.fd_Disk_blocks [Str.ofString "self"] (sp_Disk_blocks A)) (G_Disk_synced : FnD P w K mg base 1 T.a_Disk_synced T.fd_Disk_synced [Str.ofString "self"] (sp_Disk_synced A)) (G_Disk_copy : FnD P w K mg base 3 T.a_Disk_copy T.fd_Disk_copy [Str.ofString "self"] (sp_Disk_copy A)) (G__law_pool : FnD P w K mg base 1 T.a__law_pool T.fd__law_pool [Str.ofString "_law_script"] (sp__law_pool A)) (G__law_draw : FnD P w K mg base 1 T.a__law_draw T.fd__law_draw [Str.ofString "_law_pool_here", Str.ofString "_law_many"] (sp__law_draw A)) (G__law_is : FnD P w K mg base 1 T.a__law_is T.fd__law_is [Str.ofString "_law_told", Str.ofString "_law_due"] (sp__law_is A)) (G__law_led : FnD P w K mg base 8 T.a__law_led T.fd__law_led [Str.ofString "_law_pool_here", Str.ofString "_law_disk", Str.ofString "_law_blocks", Str.ofString "_law_synced", Str.ofString "_law_many"] (sp__law_led A)) (cdv : Value) (An : Around) (outer : List Env) (s : Shared) (H : Hp) (E : XK) (hr : RoomG 8 (An.deeper (envOfC "law" (defScope s_law) s.heap.objs.size T.a_law cdv))) :
    PSs (cxOf (L2.CX P w) P w K mg base N_law "law" (defScope s_law) T.a_law cdv An outer s H E) (defBody s_law) (lowS K (WF E) (r_law A)) :=
  (s_cons (s_set 1 sc_law.nd (d_call G__law_pool (hr.mono (by decide)) T.m__law_pool T.F__law_pool.kp T.b__law_pool tkF (da_cons (dv 0) da_nil)))
    (s_cons (s_for (passes_of rfl) rfl (i_r1 T.n_range (da_cons d_int da_nil)) (g_name 2 sc_law.nd) (s_cons (s_par 3 4 rfl sc_law.nd (da_cons (d_mkM0 (mk_Disk A) T.mk_Disk G_Disk_init (hr.mono (by decide)) T.m_Disk T.b_Disk_init tkF) (da_cons (d_lst da_nil) da_nil)) (by rfl))
    (s_cons (s_if (PW.pt (t_or (t_cmp (op_neA hr.units) l_eq (d_meth0 (k := 1) (mts_cons (mt_mk T.c_Disk T.me_Disk_blocks G_Disk_blocks T.b_Disk_blocks (by decide)) mts_nil) (hr.mono (by decide)) tkF (dv 3)) (d_lstV da_nil)) (t_or1 (t_not (t_val (d_call G__law_is (hr.mono (by decide)) T.m__law_is T.F__law_is.kp T.b__law_is tkF (da_cons (d_meth0 (k := 1) (mts_cons (mt_mk T.c_Disk T.me_Disk_synced G_Disk_synced T.b_Disk_synced (by decide)) mts_nil) (hr.mono (by decide)) tkF (dv 3)) (da_cons d_int da_nil)))))))) (s_one (s_ret d_bl)) s_nil)
    (s_cons (s_set 5 sc_law.nd (d_call G__law_led (hr.mono (by decide)) T.m__law_led T.F__law_led.kp T.b__law_led tkF (da_cons (dv 1) (da_cons (dv 3) (da_cons (dv 4) (da_cons d_int (da_cons (d_call G__law_draw (hr.mono (by decide)) T.m__law_draw T.F__law_draw.kp T.b__law_draw tkF (da_cons (dv 1) (da_cons d_int da_nil))) da_nil)))))))
    (s_cons (s_if (t_cmp op_isN l_isN (dv 5) d_non) (s_one (s_ret d_bl)) s_nil)
    (s_cons (s_par 6 7 rfl sc_law.nd (da_cons (d_meth0 (k := 3) (mts_cons (mt_mk T.c_Disk T.me_Disk_copy G_Disk_copy T.b_Disk_copy (by decide)) mts_nil) (hr.mono (by decide)) tkF (dv 3)) (da_cons (d_callTy call_list_of l_list T.n_list bt_list (da_cons (dv 4) da_nil)) da_nil)) (by rfl))
    (s_cons (s_set 8 sc_law.nd (d_call G__law_led (hr.mono (by decide)) T.m__law_led T.F__law_led.kp T.b__law_led tkF (da_cons (dv 1) (da_cons (dv 6) (da_cons (dv 7) (da_cons (dv 5) (da_cons (d_call G__law_draw (hr.mono (by decide)) T.m__law_draw T.F__law_draw.kp T.b__law_draw tkF (da_cons (dv 1) (da_cons d_int da_nil))) da_nil)))))))
    (s_cons (s_if (PW.pt (t_or (t_cmp op_isN l_isN (dv 8) d_non) (t_or (t_not (t_val (d_call G__law_is (hr.mono (by decide)) T.m__law_is T.F__law_is.kp T.b__law_is tkF (da_cons (d_meth0 (k := 1) (mts_cons (mt_mk T.c_Disk T.me_Disk_blocks G_Disk_blocks T.b_Disk_blocks (by decide)) mts_nil) (hr.mono (by decide)) tkF (dv 3)) (da_cons (dv 4) da_nil))))) (t_or1 (t_not (t_val (d_call G__law_is (hr.mono (by decide)) T.m__law_is T.F__law_is.kp T.b__law_is tkF (da_cons (d_meth0 (k := 1) (mts_cons (mt_mk T.c_Disk T.me_Disk_synced G_Disk_synced T.b_Disk_synced (by decide)) mts_nil) (hr.mono (by decide)) tkF (dv 3)) (da_cons (dv 5) da_nil))))))))) (s_one (s_ret d_bl)) s_nil)
    (s_cons (s_if (PW.pt (t_or (t_cmp op_isN l_isN (d_call G__law_led (hr.mono (by decide)) T.m__law_led T.F__law_led.kp T.b__law_led tkF (da_cons (dv 1) (da_cons (dv 3) (da_cons (dv 4) (da_cons (dv 5) (da_cons (d_call G__law_draw (hr.mono (by decide)) T.m__law_draw T.F__law_draw.kp T.b__law_draw tkF (da_cons (dv 1) (da_cons d_int da_nil))) da_nil)))))) d_non) (t_or1 (t_not (t_val (d_call G__law_is (hr.mono (by decide)) T.m__law_is T.F__law_is.kp T.b__law_is tkF (da_cons (d_meth0 (k := 1) (mts_cons (mt_mk T.c_Disk T.me_Disk_blocks G_Disk_blocks T.b_Disk_blocks (by decide)) mts_nil) (hr.mono (by decide)) tkF (dv 6)) (da_cons (dv 7) da_nil)))))))) (s_one (s_ret d_bl)) s_nil)
    (s_cons (s_expr (d_bm PySem.F.slot_list_append PySem.F.type_list_append mt_append l_append (d_meth0 (k := 1) (mts_cons (mt_mk T.c_Disk T.me_Disk_blocks G_Disk_blocks T.b_Disk_blocks (by decide)) mts_nil) (hr.mono (by decide)) tkF (dv 3)) (da_cons (d_tup (da_cons d_int da_nil)) da_nil)))
    (s_one (s_if (PW.pt (t_or (t_not (t_val (d_call G__law_is (hr.mono (by decide)) T.m__law_is T.F__law_is.kp T.b__law_is tkF (da_cons (d_meth0 (k := 1) (mts_cons (mt_mk T.c_Disk T.me_Disk_blocks G_Disk_blocks T.b_Disk_blocks (by decide)) mts_nil) (hr.mono (by decide)) tkF (dv 3)) (da_cons (dv 4) da_nil))))) (t_or1 (t_not (t_val (d_call G__law_is (hr.mono (by decide)) T.m__law_is T.F__law_is.kp T.b__law_is tkF (da_cons (d_meth0 (k := 1) (mts_cons (mt_mk T.c_Disk T.me_Disk_synced G_Disk_synced T.b_Disk_synced (by decide)) mts_nil) (hr.mono (by decide)) tkF (dv 6)) (da_cons (dv 8) da_nil)))))))) (s_one (s_ret d_bl)) s_nil))))))))))))
    (s_one (s_ret d_bl))))
theorem all_mk_ok (T : Tx K mg A) : FnD P w K mg base 9 T.a_law T.fd_law ["_law_script"] spLaw := by
  have G_Disk_init : FnD P w K mg base 1 T.a_Disk_init T.fd_Disk_init [Str.ofString "self"] (sp_Disk_init A) := okD T.F_Disk_init sc_Disk_init (len_Disk_init A) _ (fun cdv An outer s H E hr => w_Disk_init T  cdv An outer s H E hr) (rd_Disk_init A)
  have G_Disk_blocks : FnD P w K mg base 1 T.a_Disk_blocks T.fd_Disk_blocks [Str.ofString "self"] (sp_Disk_blocks A) := okD T.F_Disk_blocks sc_Disk_blocks (len_Disk_blocks A) _ (fun cdv An outer s H E hr => w_Disk_blocks T  cdv An outer s H E hr) (rd_Disk_blocks A)
  have G_Disk_synced : FnD P w K mg base 1 T.a_Disk_synced T.fd_Disk_synced [Str.ofString "self"] (sp_Disk_synced A) := okD T.F_Disk_synced sc_Disk_synced (len_Disk_synced A) _ (fun cdv An outer s H E hr => w_Disk_synced T  cdv An outer s H E hr) (rd_Disk_synced A)
  have G_Disk_copy : FnD P w K mg base 3 T.a_Disk_copy T.fd_Disk_copy [Str.ofString "self"] (sp_Disk_copy A) := okD T.F_Disk_copy sc_Disk_copy (len_Disk_copy A) _ (fun cdv An outer s H E hr => w_Disk_copy T G_Disk_init cdv An outer s H E hr) (rd_Disk_copy A)
  have G__law_pool : FnD P w K mg base 1 T.a__law_pool T.fd__law_pool [Str.ofString "_law_script"] (sp__law_pool A) := okD T.F__law_pool sc__law_pool (len__law_pool A) _ (fun cdv An outer s H E hr => w__law_pool T  cdv An outer s H E hr) (rd__law_pool A)
  have G__law_draw : FnD P w K mg base 1 T.a__law_draw T.fd__law_draw [Str.ofString "_law_pool_here", Str.ofString "_law_many"] (sp__law_draw A) := okD T.F__law_draw sc__law_draw (len__law_draw A) _ (fun cdv An outer s H E hr => w__law_draw T  cdv An outer s H E hr) (rd__law_draw A)
  have G__law_is : FnD P w K mg base 1 T.a__law_is T.fd__law_is [Str.ofString "_law_told", Str.ofString "_law_due"] (sp__law_is A) := okD T.F__law_is sc__law_is (len__law_is A) _ (fun cdv An outer s H E hr => w__law_is T  cdv An outer s H E hr) (rd__law_is A)
  have G_Disk_sync : FnD P w K mg base 1 T.a_Disk_sync T.fd_Disk_sync [Str.ofString "self"] (sp_Disk_sync A) := okD T.F_Disk_sync sc_Disk_sync (len_Disk_sync A) _ (fun cdv An outer s H E hr => w_Disk_sync T  cdv An outer s H E hr) (rd_Disk_sync A)
  have G__law_is_row : FnD P w K mg base 1 T.a__law_is_row T.fd__law_is_row [Str.ofString "_law_thing"] (sp__law_is_row A) := okD T.F__law_is_row sc__law_is_row (len__law_is_row A) _ (fun cdv An outer s H E hr => w__law_is_row T  cdv An outer s H E hr) (rd__law_is_row A)
  have G_is_integer : FnD P w K mg base 1 T.a_is_integer T.fd_is_integer [Str.ofString "thing"] (sp_is_integer A) := okD T.F_is_integer sc_is_integer (len_is_integer A) _ (fun cdv An outer s H E hr => w_is_integer T  cdv An outer s H E hr) (rd_is_integer A)
  have G_is_within : FnD P w K mg base 2 T.a_is_within T.fd_is_within [Str.ofString "thing", Str.ofString "least", Str.ofString "most"] (sp_is_within A) := okD T.F_is_within sc_is_within (len_is_within A) _ (fun cdv An outer s H E hr => w_is_within T G_is_integer cdv An outer s H E hr) (rd_is_within A)
  have G_is_below : FnD P w K mg base 3 T.a_is_below T.fd_is_below [Str.ofString "thing", Str.ofString "many"] (sp_is_below A) := okD T.F_is_below sc_is_below (len_is_below A) _ (fun cdv An outer s H E hr => w_is_below T G_is_within cdv An outer s H E hr) (rd_is_below A)
  have G_is_row : FnD P w K mg base 4 T.a_is_row T.fd_is_row [Str.ofString "thing"] (sp_is_row A) := okD T.F_is_row sc_is_row (len_is_row A) _ (fun cdv An outer s H E hr => w_is_row T G_is_below cdv An outer s H E hr) (rd_is_row A)
  have G_check_row : FnD P w K mg base 5 T.a_check_row T.fd_check_row [Str.ofString "thing"] (sp_check_row A) := okD T.F_check_row sc_check_row (len_check_row A) _ (fun cdv An outer s H E hr => w_check_row T G_is_row cdv An outer s H E hr) (rd_check_row A)
  have G_Disk_write : FnD P w K mg base 6 T.a_Disk_write T.fd_Disk_write [Str.ofString "self", Str.ofString "row"] (sp_Disk_write A) := okD T.F_Disk_write sc_Disk_write (len_Disk_write A) _ (fun cdv An outer s H E hr => w_Disk_write T G_check_row cdv An outer s H E hr) (rd_Disk_write A)
  have G_is_sized : FnD P w K mg base 1 T.a_is_sized T.fd_is_sized [Str.ofString "thing", Str.ofString "least", Str.ofString "most"] (sp_is_sized A) := okD T.F_is_sized sc_is_sized (len_is_sized A) _ (fun cdv An outer s H E hr => w_is_sized T  cdv An outer s H E hr) (rd_is_sized A)
  have G_Disk_cut : FnD P w K mg base 3 T.a_Disk_cut T.fd_Disk_cut [Str.ofString "self", Str.ofString "kept"] (sp_Disk_cut A) := okD T.F_Disk_cut sc_Disk_cut (len_Disk_cut A) _ (fun cdv An outer s H E hr => w_Disk_cut T G_is_within G_is_sized cdv An outer s H E hr) (rd_Disk_cut A)
  have G_check_within : FnD P w K mg base 3 T.a_check_within T.fd_check_within [Str.ofString "thing", Str.ofString "least", Str.ofString "most"] (sp_check_within A) := okD T.F_check_within sc_check_within (len_check_within A) _ (fun cdv An outer s H E hr => w_check_within T G_is_within cdv An outer s H E hr) (rd_check_within A)
  have G_Disk_drop : FnD P w K mg base 4 T.a_Disk_drop T.fd_Disk_drop [Str.ofString "self", Str.ofString "number"] (sp_Disk_drop A) := okD T.F_Disk_drop sc_Disk_drop (len_Disk_drop A) _ (fun cdv An outer s H E hr => w_Disk_drop T G_check_within cdv An outer s H E hr) (rd_Disk_drop A)
  have G__law_word : FnD P w K mg base 7 T.a__law_word T.fd__law_word [Str.ofString "_law_disk", Str.ofString "_law_which", Str.ofString "_law_thing"] (sp__law_word A) := okD T.F__law_word sc__law_word (len__law_word A) _ (fun cdv An outer s H E hr => w__law_word T G_Disk_write G_Disk_cut G_Disk_drop cdv An outer s H E hr) (rd__law_word A)
  have G__law_is_cut : FnD P w K mg base 1 T.a__law_is_cut T.fd__law_is_cut [Str.ofString "_law_blocks", Str.ofString "_law_synced", Str.ofString "_law_thing"] (sp__law_is_cut A) := okD T.F__law_is_cut sc__law_is_cut (len__law_is_cut A) _ (fun cdv An outer s H E hr => w__law_is_cut T  cdv An outer s H E hr) (rd__law_is_cut A)
  have G__law_deep : FnD P w K mg base 1 T.a__law_deep T.fd__law_deep [] (sp__law_deep A) := okD T.F__law_deep sc__law_deep (len__law_deep A) _ (fun cdv An outer s H E hr => w__law_deep T  cdv An outer s H E hr) (rd__law_deep A)
  have G__law_odd : FnD P w K mg base 2 T.a__law_odd T.fd__law_odd [Str.ofString "_law_pool_here", Str.ofString "_law_things"] (sp__law_odd A) := okD T.F__law_odd sc__law_odd (len__law_odd A) _ (fun cdv An outer s H E hr => w__law_odd T G__law_draw G__law_deep cdv An outer s H E hr) (rd__law_odd A)
  have G__law_led : FnD P w K mg base 8 T.a__law_led T.fd__law_led [Str.ofString "_law_pool_here", Str.ofString "_law_disk", Str.ofString "_law_blocks", Str.ofString "_law_synced", Str.ofString "_law_many"] (sp__law_led A) := okD T.F__law_led sc__law_led (len__law_led A) _ (fun cdv An outer s H E hr => w__law_led T G_Disk_sync G_Disk_blocks G_Disk_synced G__law_draw G__law_is G__law_is_row G__law_word G__law_is_cut G__law_odd cdv An outer s H E hr) (rd__law_led A)
  have G_law : FnD P w K mg base 9 T.a_law T.fd_law [Str.ofString "_law_script"] spLaw := okD T.F_law sc_law (len_law A) _ (fun cdv An outer s H E hr => w_law T G_Disk_init G_Disk_blocks G_Disk_synced G_Disk_copy G__law_pool G__law_draw G__law_is G__law_led cdv An outer s H E hr) (rd_law A)
  exact G_law
end
def tx_mk {K : PySem.W.Frag} {h : Heap} {mg : Str → Option Value} (X : K.In h) (G : h.Ns mainGlobals mg)
    {fa_is_integer : Addr} {oc_is_integer kV_is_integer doc_is_integer pm_is_integer cd_is_integer ct_is_integer : Value} {od_is_integer an_is_integer : Option Addr} {sl_is_integer : Array (Option Value)}
    {fa_is_within : Addr} {oc_is_within kV_is_within doc_is_within pm_is_within cd_is_within ct_is_within : Value} {od_is_within an_is_within : Option Addr} {sl_is_within : Array (Option Value)}
    {fa_is_below : Addr} {oc_is_below kV_is_below doc_is_below pm_is_below cd_is_below ct_is_below : Value} {od_is_below an_is_below : Option Addr} {sl_is_below : Array (Option Value)}
    {fa_is_sized : Addr} {oc_is_sized kV_is_sized doc_is_sized pm_is_sized cd_is_sized ct_is_sized : Value} {od_is_sized an_is_sized : Option Addr} {sl_is_sized : Array (Option Value)}
    {fa_check_within : Addr} {oc_check_within kV_check_within doc_check_within pm_check_within cd_check_within ct_check_within : Value} {od_check_within an_check_within : Option Addr} {sl_check_within : Array (Option Value)}
    {fa_is_row : Addr} {oc_is_row kV_is_row doc_is_row pm_is_row cd_is_row ct_is_row : Value} {od_is_row an_is_row : Option Addr} {sl_is_row : Array (Option Value)}
    {fa_check_row : Addr} {oc_check_row kV_check_row doc_check_row pm_check_row cd_check_row ct_check_row : Value} {od_check_row an_check_row : Option Addr} {sl_check_row : Array (Option Value)}
    {fa_Disk_init : Addr} {oc_Disk_init kV_Disk_init doc_Disk_init pm_Disk_init cd_Disk_init ct_Disk_init : Value} {od_Disk_init an_Disk_init : Option Addr} {sl_Disk_init : Array (Option Value)}
    {fa_Disk_write : Addr} {oc_Disk_write kV_Disk_write doc_Disk_write pm_Disk_write cd_Disk_write ct_Disk_write : Value} {od_Disk_write an_Disk_write : Option Addr} {sl_Disk_write : Array (Option Value)}
    {fa_Disk_sync : Addr} {oc_Disk_sync kV_Disk_sync doc_Disk_sync pm_Disk_sync cd_Disk_sync ct_Disk_sync : Value} {od_Disk_sync an_Disk_sync : Option Addr} {sl_Disk_sync : Array (Option Value)}
    {fa_Disk_blocks : Addr} {oc_Disk_blocks kV_Disk_blocks doc_Disk_blocks pm_Disk_blocks cd_Disk_blocks ct_Disk_blocks : Value} {od_Disk_blocks an_Disk_blocks : Option Addr} {sl_Disk_blocks : Array (Option Value)}
    {fa_Disk_synced : Addr} {oc_Disk_synced kV_Disk_synced doc_Disk_synced pm_Disk_synced cd_Disk_synced ct_Disk_synced : Value} {od_Disk_synced an_Disk_synced : Option Addr} {sl_Disk_synced : Array (Option Value)}
    {fa_Disk_cut : Addr} {oc_Disk_cut kV_Disk_cut doc_Disk_cut pm_Disk_cut cd_Disk_cut ct_Disk_cut : Value} {od_Disk_cut an_Disk_cut : Option Addr} {sl_Disk_cut : Array (Option Value)}
    {fa_Disk_drop : Addr} {oc_Disk_drop kV_Disk_drop doc_Disk_drop pm_Disk_drop cd_Disk_drop ct_Disk_drop : Value} {od_Disk_drop an_Disk_drop : Option Addr} {sl_Disk_drop : Array (Option Value)}
    {fa_Disk_copy : Addr} {oc_Disk_copy kV_Disk_copy doc_Disk_copy pm_Disk_copy cd_Disk_copy ct_Disk_copy : Value} {od_Disk_copy an_Disk_copy : Option Addr} {sl_Disk_copy : Array (Option Value)}
    {fa__law_pool : Addr} {oc__law_pool kV__law_pool doc__law_pool pm__law_pool cd__law_pool ct__law_pool : Value} {od__law_pool an__law_pool : Option Addr} {sl__law_pool : Array (Option Value)}
    {fa__law_draw : Addr} {oc__law_draw kV__law_draw doc__law_draw pm__law_draw cd__law_draw ct__law_draw : Value} {od__law_draw an__law_draw : Option Addr} {sl__law_draw : Array (Option Value)}
    {fa__law_deep : Addr} {oc__law_deep kV__law_deep doc__law_deep pm__law_deep cd__law_deep ct__law_deep : Value} {od__law_deep an__law_deep : Option Addr} {sl__law_deep : Array (Option Value)}
    {fa__law_is : Addr} {oc__law_is kV__law_is doc__law_is pm__law_is cd__law_is ct__law_is : Value} {od__law_is an__law_is : Option Addr} {sl__law_is : Array (Option Value)}
    {fa__law_is_row : Addr} {oc__law_is_row kV__law_is_row doc__law_is_row pm__law_is_row cd__law_is_row ct__law_is_row : Value} {od__law_is_row an__law_is_row : Option Addr} {sl__law_is_row : Array (Option Value)}
    {fa__law_word : Addr} {oc__law_word kV__law_word doc__law_word pm__law_word cd__law_word ct__law_word : Value} {od__law_word an__law_word : Option Addr} {sl__law_word : Array (Option Value)}
    {fa__law_is_cut : Addr} {oc__law_is_cut kV__law_is_cut doc__law_is_cut pm__law_is_cut cd__law_is_cut ct__law_is_cut : Value} {od__law_is_cut an__law_is_cut : Option Addr} {sl__law_is_cut : Array (Option Value)}
    {fa__law_odd : Addr} {oc__law_odd kV__law_odd doc__law_odd pm__law_odd cd__law_odd ct__law_odd : Value} {od__law_odd an__law_odd : Option Addr} {sl__law_odd : Array (Option Value)}
    {fa__law_led : Addr} {oc__law_led kV__law_led doc__law_led pm__law_led cd__law_led ct__law_led : Value} {od__law_led an__law_led : Option Addr} {sl__law_led : Array (Option Value)}
    {fa_law : Addr} {oc_law kV_law doc_law pm_law cd_law ct_law : Value} {od_law an_law : Option Addr} {sl_law : Array (Option Value)}
    {tk1 : Tok}
    {tk2 : Tok}
    {A_WorldError : Addr}
    {A_NoNumber : Addr}
    {A_NoRow : Addr}
    {A_NoCut : Addr}
    {A_Disk : Addr}
    (a_is_integer : PySem.W.nsIn K mainGlobals "is_integer" = some (some (.ref fa_is_integer)))
    (l_is_integer : K.lookup fa_is_integer = some ⟨oc_is_integer, od_is_integer, .func (PySem.W.fnOf "is_integer" "is_integer" (defArgs s_is_integer) (defBody s_is_integer) (defScope s_is_integer) .none kV_is_integer doc_is_integer pm_is_integer an_is_integer cd_is_integer ct_is_integer), sl_is_integer⟩)
    (c_is_integer : PySem.W.codeIn K cd_is_integer "is_integer" = true)
    (k_is_integer : PySem.W.keepIn K (.ref fa_is_integer) = true)
    (a_is_within : PySem.W.nsIn K mainGlobals "is_within" = some (some (.ref fa_is_within)))
    (l_is_within : K.lookup fa_is_within = some ⟨oc_is_within, od_is_within, .func (PySem.W.fnOf "is_within" "is_within" (defArgs s_is_within) (defBody s_is_within) (defScope s_is_within) .none kV_is_within doc_is_within pm_is_within an_is_within cd_is_within ct_is_within), sl_is_within⟩)
    (c_is_within : PySem.W.codeIn K cd_is_within "is_within" = true)
    (k_is_within : PySem.W.keepIn K (.ref fa_is_within) = true)
    (a_is_below : PySem.W.nsIn K mainGlobals "is_below" = some (some (.ref fa_is_below)))
    (l_is_below : K.lookup fa_is_below = some ⟨oc_is_below, od_is_below, .func (PySem.W.fnOf "is_below" "is_below" (defArgs s_is_below) (defBody s_is_below) (defScope s_is_below) .none kV_is_below doc_is_below pm_is_below an_is_below cd_is_below ct_is_below), sl_is_below⟩)
    (c_is_below : PySem.W.codeIn K cd_is_below "is_below" = true)
    (k_is_below : PySem.W.keepIn K (.ref fa_is_below) = true)
    (a_is_sized : PySem.W.nsIn K mainGlobals "is_sized" = some (some (.ref fa_is_sized)))
    (l_is_sized : K.lookup fa_is_sized = some ⟨oc_is_sized, od_is_sized, .func (PySem.W.fnOf "is_sized" "is_sized" (defArgs s_is_sized) (defBody s_is_sized) (defScope s_is_sized) .none kV_is_sized doc_is_sized pm_is_sized an_is_sized cd_is_sized ct_is_sized), sl_is_sized⟩)
    (c_is_sized : PySem.W.codeIn K cd_is_sized "is_sized" = true)
    (k_is_sized : PySem.W.keepIn K (.ref fa_is_sized) = true)
    (a_check_within : PySem.W.nsIn K mainGlobals "check_within" = some (some (.ref fa_check_within)))
    (l_check_within : K.lookup fa_check_within = some ⟨oc_check_within, od_check_within, .func (PySem.W.fnOf "check_within" "check_within" (defArgs s_check_within) (defBody s_check_within) (defScope s_check_within) .none kV_check_within doc_check_within pm_check_within an_check_within cd_check_within ct_check_within), sl_check_within⟩)
    (c_check_within : PySem.W.codeIn K cd_check_within "check_within" = true)
    (k_check_within : PySem.W.keepIn K (.ref fa_check_within) = true)
    (a_is_row : PySem.W.nsIn K mainGlobals "is_row" = some (some (.ref fa_is_row)))
    (l_is_row : K.lookup fa_is_row = some ⟨oc_is_row, od_is_row, .func (PySem.W.fnOf "is_row" "is_row" (defArgs s_is_row) (defBody s_is_row) (defScope s_is_row) .none kV_is_row doc_is_row pm_is_row an_is_row cd_is_row ct_is_row), sl_is_row⟩)
    (c_is_row : PySem.W.codeIn K cd_is_row "is_row" = true)
    (k_is_row : PySem.W.keepIn K (.ref fa_is_row) = true)
    (a_check_row : PySem.W.nsIn K mainGlobals "check_row" = some (some (.ref fa_check_row)))
    (l_check_row : K.lookup fa_check_row = some ⟨oc_check_row, od_check_row, .func (PySem.W.fnOf "check_row" "check_row" (defArgs s_check_row) (defBody s_check_row) (defScope s_check_row) .none kV_check_row doc_check_row pm_check_row an_check_row cd_check_row ct_check_row), sl_check_row⟩)
    (c_check_row : PySem.W.codeIn K cd_check_row "check_row" = true)
    (k_check_row : PySem.W.keepIn K (.ref fa_check_row) = true)
    (a_Disk_init : PySem.W.findIn K (.ref A_Disk) "__init__" = some (some (.ref fa_Disk_init)))
    (l_Disk_init : K.lookup fa_Disk_init = some ⟨oc_Disk_init, od_Disk_init, .func (PySem.W.fnOf "__init__" "Disk.__init__" (defArgs s_Disk_init) (defBody s_Disk_init) (defScope s_Disk_init) .none kV_Disk_init doc_Disk_init pm_Disk_init an_Disk_init cd_Disk_init ct_Disk_init), sl_Disk_init⟩)
    (c_Disk_init : PySem.W.codeIn K cd_Disk_init "Disk.__init__" = true)
    (k_Disk_init : PySem.W.keepIn K (.ref fa_Disk_init) = true)
    (a_Disk_write : PySem.W.findIn K (.ref A_Disk) "write" = some (some (.ref fa_Disk_write)))
    (l_Disk_write : K.lookup fa_Disk_write = some ⟨oc_Disk_write, od_Disk_write, .func (PySem.W.fnOf "write" "Disk.write" (defArgs s_Disk_write) (defBody s_Disk_write) (defScope s_Disk_write) .none kV_Disk_write doc_Disk_write pm_Disk_write an_Disk_write cd_Disk_write ct_Disk_write), sl_Disk_write⟩)
    (c_Disk_write : PySem.W.codeIn K cd_Disk_write "Disk.write" = true)
    (k_Disk_write : PySem.W.keepIn K (.ref fa_Disk_write) = true)
    (a_Disk_sync : PySem.W.findIn K (.ref A_Disk) "sync" = some (some (.ref fa_Disk_sync)))
    (l_Disk_sync : K.lookup fa_Disk_sync = some ⟨oc_Disk_sync, od_Disk_sync, .func (PySem.W.fnOf "sync" "Disk.sync" (defArgs s_Disk_sync) (defBody s_Disk_sync) (defScope s_Disk_sync) .none kV_Disk_sync doc_Disk_sync pm_Disk_sync an_Disk_sync cd_Disk_sync ct_Disk_sync), sl_Disk_sync⟩)
    (c_Disk_sync : PySem.W.codeIn K cd_Disk_sync "Disk.sync" = true)
    (k_Disk_sync : PySem.W.keepIn K (.ref fa_Disk_sync) = true)
    (a_Disk_blocks : PySem.W.findIn K (.ref A_Disk) "blocks" = some (some (.ref fa_Disk_blocks)))
    (l_Disk_blocks : K.lookup fa_Disk_blocks = some ⟨oc_Disk_blocks, od_Disk_blocks, .func (PySem.W.fnOf "blocks" "Disk.blocks" (defArgs s_Disk_blocks) (defBody s_Disk_blocks) (defScope s_Disk_blocks) .none kV_Disk_blocks doc_Disk_blocks pm_Disk_blocks an_Disk_blocks cd_Disk_blocks ct_Disk_blocks), sl_Disk_blocks⟩)
    (c_Disk_blocks : PySem.W.codeIn K cd_Disk_blocks "Disk.blocks" = true)
    (k_Disk_blocks : PySem.W.keepIn K (.ref fa_Disk_blocks) = true)
    (a_Disk_synced : PySem.W.findIn K (.ref A_Disk) "synced" = some (some (.ref fa_Disk_synced)))
    (l_Disk_synced : K.lookup fa_Disk_synced = some ⟨oc_Disk_synced, od_Disk_synced, .func (PySem.W.fnOf "synced" "Disk.synced" (defArgs s_Disk_synced) (defBody s_Disk_synced) (defScope s_Disk_synced) .none kV_Disk_synced doc_Disk_synced pm_Disk_synced an_Disk_synced cd_Disk_synced ct_Disk_synced), sl_Disk_synced⟩)
    (c_Disk_synced : PySem.W.codeIn K cd_Disk_synced "Disk.synced" = true)
    (k_Disk_synced : PySem.W.keepIn K (.ref fa_Disk_synced) = true)
    (a_Disk_cut : PySem.W.findIn K (.ref A_Disk) "cut" = some (some (.ref fa_Disk_cut)))
    (l_Disk_cut : K.lookup fa_Disk_cut = some ⟨oc_Disk_cut, od_Disk_cut, .func (PySem.W.fnOf "cut" "Disk.cut" (defArgs s_Disk_cut) (defBody s_Disk_cut) (defScope s_Disk_cut) .none kV_Disk_cut doc_Disk_cut pm_Disk_cut an_Disk_cut cd_Disk_cut ct_Disk_cut), sl_Disk_cut⟩)
    (c_Disk_cut : PySem.W.codeIn K cd_Disk_cut "Disk.cut" = true)
    (k_Disk_cut : PySem.W.keepIn K (.ref fa_Disk_cut) = true)
    (a_Disk_drop : PySem.W.findIn K (.ref A_Disk) "drop" = some (some (.ref fa_Disk_drop)))
    (l_Disk_drop : K.lookup fa_Disk_drop = some ⟨oc_Disk_drop, od_Disk_drop, .func (PySem.W.fnOf "drop" "Disk.drop" (defArgs s_Disk_drop) (defBody s_Disk_drop) (defScope s_Disk_drop) .none kV_Disk_drop doc_Disk_drop pm_Disk_drop an_Disk_drop cd_Disk_drop ct_Disk_drop), sl_Disk_drop⟩)
    (c_Disk_drop : PySem.W.codeIn K cd_Disk_drop "Disk.drop" = true)
    (k_Disk_drop : PySem.W.keepIn K (.ref fa_Disk_drop) = true)
    (a_Disk_copy : PySem.W.findIn K (.ref A_Disk) "copy" = some (some (.ref fa_Disk_copy)))
    (l_Disk_copy : K.lookup fa_Disk_copy = some ⟨oc_Disk_copy, od_Disk_copy, .func (PySem.W.fnOf "copy" "Disk.copy" (defArgs s_Disk_copy) (defBody s_Disk_copy) (defScope s_Disk_copy) .none kV_Disk_copy doc_Disk_copy pm_Disk_copy an_Disk_copy cd_Disk_copy ct_Disk_copy), sl_Disk_copy⟩)
    (c_Disk_copy : PySem.W.codeIn K cd_Disk_copy "Disk.copy" = true)
    (k_Disk_copy : PySem.W.keepIn K (.ref fa_Disk_copy) = true)
    (a__law_pool : PySem.W.nsIn K mainGlobals "_law_pool" = some (some (.ref fa__law_pool)))
    (l__law_pool : K.lookup fa__law_pool = some ⟨oc__law_pool, od__law_pool, .func (PySem.W.fnOf "_law_pool" "_law_pool" (defArgs s__law_pool) (defBody s__law_pool) (defScope s__law_pool) .none kV__law_pool doc__law_pool pm__law_pool an__law_pool cd__law_pool ct__law_pool), sl__law_pool⟩)
    (c__law_pool : PySem.W.codeIn K cd__law_pool "_law_pool" = true)
    (k__law_pool : PySem.W.keepIn K (.ref fa__law_pool) = true)
    (a__law_draw : PySem.W.nsIn K mainGlobals "_law_draw" = some (some (.ref fa__law_draw)))
    (l__law_draw : K.lookup fa__law_draw = some ⟨oc__law_draw, od__law_draw, .func (PySem.W.fnOf "_law_draw" "_law_draw" (defArgs s__law_draw) (defBody s__law_draw) (defScope s__law_draw) .none kV__law_draw doc__law_draw pm__law_draw an__law_draw cd__law_draw ct__law_draw), sl__law_draw⟩)
    (c__law_draw : PySem.W.codeIn K cd__law_draw "_law_draw" = true)
    (k__law_draw : PySem.W.keepIn K (.ref fa__law_draw) = true)
    (a__law_deep : PySem.W.nsIn K mainGlobals "_law_deep" = some (some (.ref fa__law_deep)))
    (l__law_deep : K.lookup fa__law_deep = some ⟨oc__law_deep, od__law_deep, .func (PySem.W.fnOf "_law_deep" "_law_deep" (defArgs s__law_deep) (defBody s__law_deep) (defScope s__law_deep) .none kV__law_deep doc__law_deep pm__law_deep an__law_deep cd__law_deep ct__law_deep), sl__law_deep⟩)
    (c__law_deep : PySem.W.codeIn K cd__law_deep "_law_deep" = true)
    (k__law_deep : PySem.W.keepIn K (.ref fa__law_deep) = true)
    (a__law_is : PySem.W.nsIn K mainGlobals "_law_is" = some (some (.ref fa__law_is)))
    (l__law_is : K.lookup fa__law_is = some ⟨oc__law_is, od__law_is, .func (PySem.W.fnOf "_law_is" "_law_is" (defArgs s__law_is) (defBody s__law_is) (defScope s__law_is) .none kV__law_is doc__law_is pm__law_is an__law_is cd__law_is ct__law_is), sl__law_is⟩)
    (c__law_is : PySem.W.codeIn K cd__law_is "_law_is" = true)
    (k__law_is : PySem.W.keepIn K (.ref fa__law_is) = true)
    (a__law_is_row : PySem.W.nsIn K mainGlobals "_law_is_row" = some (some (.ref fa__law_is_row)))
    (l__law_is_row : K.lookup fa__law_is_row = some ⟨oc__law_is_row, od__law_is_row, .func (PySem.W.fnOf "_law_is_row" "_law_is_row" (defArgs s__law_is_row) (defBody s__law_is_row) (defScope s__law_is_row) .none kV__law_is_row doc__law_is_row pm__law_is_row an__law_is_row cd__law_is_row ct__law_is_row), sl__law_is_row⟩)
    (c__law_is_row : PySem.W.codeIn K cd__law_is_row "_law_is_row" = true)
    (k__law_is_row : PySem.W.keepIn K (.ref fa__law_is_row) = true)
    (a__law_word : PySem.W.nsIn K mainGlobals "_law_word" = some (some (.ref fa__law_word)))
    (l__law_word : K.lookup fa__law_word = some ⟨oc__law_word, od__law_word, .func (PySem.W.fnOf "_law_word" "_law_word" (defArgs s__law_word) (defBody s__law_word) (defScope s__law_word) .none kV__law_word doc__law_word pm__law_word an__law_word cd__law_word ct__law_word), sl__law_word⟩)
    (c__law_word : PySem.W.codeIn K cd__law_word "_law_word" = true)
    (k__law_word : PySem.W.keepIn K (.ref fa__law_word) = true)
    (a__law_is_cut : PySem.W.nsIn K mainGlobals "_law_is_cut" = some (some (.ref fa__law_is_cut)))
    (l__law_is_cut : K.lookup fa__law_is_cut = some ⟨oc__law_is_cut, od__law_is_cut, .func (PySem.W.fnOf "_law_is_cut" "_law_is_cut" (defArgs s__law_is_cut) (defBody s__law_is_cut) (defScope s__law_is_cut) .none kV__law_is_cut doc__law_is_cut pm__law_is_cut an__law_is_cut cd__law_is_cut ct__law_is_cut), sl__law_is_cut⟩)
    (c__law_is_cut : PySem.W.codeIn K cd__law_is_cut "_law_is_cut" = true)
    (k__law_is_cut : PySem.W.keepIn K (.ref fa__law_is_cut) = true)
    (a__law_odd : PySem.W.nsIn K mainGlobals "_law_odd" = some (some (.ref fa__law_odd)))
    (l__law_odd : K.lookup fa__law_odd = some ⟨oc__law_odd, od__law_odd, .func (PySem.W.fnOf "_law_odd" "_law_odd" (defArgs s__law_odd) (defBody s__law_odd) (defScope s__law_odd) .none kV__law_odd doc__law_odd pm__law_odd an__law_odd cd__law_odd ct__law_odd), sl__law_odd⟩)
    (c__law_odd : PySem.W.codeIn K cd__law_odd "_law_odd" = true)
    (k__law_odd : PySem.W.keepIn K (.ref fa__law_odd) = true)
    (a__law_led : PySem.W.nsIn K mainGlobals "_law_led" = some (some (.ref fa__law_led)))
    (l__law_led : K.lookup fa__law_led = some ⟨oc__law_led, od__law_led, .func (PySem.W.fnOf "_law_led" "_law_led" (defArgs s__law_led) (defBody s__law_led) (defScope s__law_led) .none kV__law_led doc__law_led pm__law_led an__law_led cd__law_led ct__law_led), sl__law_led⟩)
    (c__law_led : PySem.W.codeIn K cd__law_led "_law_led" = true)
    (k__law_led : PySem.W.keepIn K (.ref fa__law_led) = true)
    (a_law : PySem.W.nsIn K mainGlobals "law" = some (some (.ref fa_law)))
    (l_law : K.lookup fa_law = some ⟨oc_law, od_law, .func (PySem.W.fnOf "law" "law" (defArgs s_law) (defBody s_law) (defScope s_law) .none kV_law doc_law pm_law an_law cd_law ct_law), sl_law⟩)
    (c_law : PySem.W.codeIn K cd_law "law" = true)
    (k_law : PySem.W.keepIn K (.ref fa_law) = true)
    (m_BYTE : PySem.W.nsIn K mainGlobals "BYTE" = some (some (.int 256 tk1)))
    (m_MOST_BYTES : PySem.W.nsIn K mainGlobals "MOST_BYTES" = some (some (.int 300000 tk2)))
    (n_ValueError : PySem.W.nsIn K mainGlobals "ValueError" = some none)
    (n_abs : PySem.W.nsIn K mainGlobals "abs" = some none)
    (n_all : PySem.W.nsIn K mainGlobals "all" = some none)
    (n_bool : PySem.W.nsIn K mainGlobals "bool" = some none)
    (n_int : PySem.W.nsIn K mainGlobals "int" = some none)
    (n_isinstance : PySem.W.nsIn K mainGlobals "isinstance" = some none)
    (n_len : PySem.W.nsIn K mainGlobals "len" = some none)
    (n_list : PySem.W.nsIn K mainGlobals "list" = some none)
    (n_min : PySem.W.nsIn K mainGlobals "min" = some none)
    (n_range : PySem.W.nsIn K mainGlobals "range" = some none)
    (n_repr : PySem.W.nsIn K mainGlobals "repr" = some none)
    (n_sum : PySem.W.nsIn K mainGlobals "sum" = some none)
    (n_tuple : PySem.W.nsIn K mainGlobals "tuple" = some none)
    (n_zip : PySem.W.nsIn K mainGlobals "zip" = some none)
    (i_Disk_blocks : PySem.W.isFn K (.ref fa_Disk_blocks) = true)
    (i_Disk_copy : PySem.W.isFn K (.ref fa_Disk_copy) = true)
    (i_Disk_cut : PySem.W.isFn K (.ref fa_Disk_cut) = true)
    (i_Disk_drop : PySem.W.isFn K (.ref fa_Disk_drop) = true)
    (i_Disk_sync : PySem.W.isFn K (.ref fa_Disk_sync) = true)
    (i_Disk_synced : PySem.W.isFn K (.ref fa_Disk_synced) = true)
    (i_Disk_write : PySem.W.isFn K (.ref fa_Disk_write) = true)
    (i_Disk_init : PySem.W.isFn K (.ref fa_Disk_init) = true)
    (mkc_Disk : PySem.W.makesIn K A_Disk = true)
    (kc_Disk : PySem.W.keepIn K (.ref A_Disk) = true)
    (pg_Disk : PySem.W.plainGet K A_Disk Str.empty = true)
    (hd_Disk : PySem.W.hasDictIn K A_Disk = true)
    (po_Disk : PySem.W.plainOver K A_Disk = true)
    (sa_Disk : PySem.W.findIn K (.ref A_Disk) "__setattr__" = some (some (.builtin "object.__setattr__")))
    (na_Disk_lasting : PySem.W.findIn K (.ref A_Disk) (Str.ofString "lasting") = some none)
    (na_Disk_rows : PySem.W.findIn K (.ref A_Disk) (Str.ofString "rows") = some none)
    (m_WorldError : PySem.W.nsIn K mainGlobals "WorldError" = some (some (.ref A_WorldError)))
    (xq_WorldError : PySem.W.excIn K A_WorldError [.type "ValueError", .type "Exception", .type "BaseException", .type "object"] "ValueError.__new__" = true)
    (xk_WorldError : PySem.W.keepIn K (.ref A_WorldError) = true)
    (xb_WorldError : PySem.W.subIn K (.ref A_WorldError) (.type "BaseException") = some true)
    (xt_WorldError : PySem.W.typeIn K (.ref A_WorldError) = some (.type "type"))
    (m_NoNumber : PySem.W.nsIn K mainGlobals "NoNumber" = some (some (.ref A_NoNumber)))
    (xq_NoNumber : PySem.W.excIn K A_NoNumber [.type "ValueError", .type "Exception", .type "BaseException", .type "object"] "ValueError.__new__" = true)
    (xk_NoNumber : PySem.W.keepIn K (.ref A_NoNumber) = true)
    (xb_NoNumber : PySem.W.subIn K (.ref A_NoNumber) (.type "BaseException") = some true)
    (xt_NoNumber : PySem.W.typeIn K (.ref A_NoNumber) = some (.type "type"))
    (m_NoRow : PySem.W.nsIn K mainGlobals "NoRow" = some (some (.ref A_NoRow)))
    (xq_NoRow : PySem.W.excIn K A_NoRow [.type "ValueError", .type "Exception", .type "BaseException", .type "object"] "ValueError.__new__" = true)
    (xk_NoRow : PySem.W.keepIn K (.ref A_NoRow) = true)
    (xb_NoRow : PySem.W.subIn K (.ref A_NoRow) (.type "BaseException") = some true)
    (xt_NoRow : PySem.W.typeIn K (.ref A_NoRow) = some (.type "type"))
    (m_NoCut : PySem.W.nsIn K mainGlobals "NoCut" = some (some (.ref A_NoCut)))
    (xq_NoCut : PySem.W.excIn K A_NoCut [.type "ValueError", .type "Exception", .type "BaseException", .type "object"] "ValueError.__new__" = true)
    (xk_NoCut : PySem.W.keepIn K (.ref A_NoCut) = true)
    (xb_NoCut : PySem.W.subIn K (.ref A_NoCut) (.type "BaseException") = some true)
    (xt_NoCut : PySem.W.typeIn K (.ref A_NoCut) = some (.type "type"))
    (m_Disk : PySem.W.nsIn K mainGlobals "Disk" = some (some (.ref A_Disk)))
    (ic_WorldError : PySem.W.isClsIn K A_WorldError = true)
    (e_NoCut_WorldError : PySem.W.subIn K (.ref A_NoCut) (.ref A_WorldError) = some true)
    (e_NoNumber_WorldError : PySem.W.subIn K (.ref A_NoNumber) (.ref A_WorldError) = some true)
    (e_NoRow_WorldError : PySem.W.subIn K (.ref A_NoRow) (.ref A_WorldError) = some true)
    (ga_NoCut : PySem.W.findIn K (.ref A_NoCut) "__getattribute__" = some (some (.builtin "BaseException.__getattribute__")))
    (gg_NoCut : PySem.W.findIn K (.ref A_NoCut) "__getattr__" = some none)
    (hd_NoCut : PySem.W.hasDictIn K A_NoCut = true)
    (oa_NoCut : PySem.W.findIn K (.ref A_NoCut) "__class__" = some (some (.builtin "object.__class__")))
    (om_NoCut : PySem.W.mroIn K A_NoCut (.type "object") = some true)
    (ga_NoNumber : PySem.W.findIn K (.ref A_NoNumber) "__getattribute__" = some (some (.builtin "BaseException.__getattribute__")))
    (gg_NoNumber : PySem.W.findIn K (.ref A_NoNumber) "__getattr__" = some none)
    (hd_NoNumber : PySem.W.hasDictIn K A_NoNumber = true)
    (oa_NoNumber : PySem.W.findIn K (.ref A_NoNumber) "__class__" = some (some (.builtin "object.__class__")))
    (om_NoNumber : PySem.W.mroIn K A_NoNumber (.type "object") = some true)
    (ga_NoRow : PySem.W.findIn K (.ref A_NoRow) "__getattribute__" = some (some (.builtin "BaseException.__getattribute__")))
    (gg_NoRow : PySem.W.findIn K (.ref A_NoRow) "__getattr__" = some none)
    (hd_NoRow : PySem.W.hasDictIn K A_NoRow = true)
    (oa_NoRow : PySem.W.findIn K (.ref A_NoRow) "__class__" = some (some (.builtin "object.__class__")))
    (om_NoRow : PySem.W.mroIn K A_NoRow (.type "object") = some true)
    (oh_n : PySem.W.specialIn K (.builtin "object.__class__") "__get__" = some (some (.builtin "getset_descriptor.__get__")))
    (oh_t : PySem.W.takesIn K (.builtin "object.__class__") = some true)
    (ne_NoCut_NoNumber : A_NoCut ≠ A_NoNumber)
    (ic_NoNumber : PySem.W.isClsIn K A_NoNumber = true)
    (e_NoCut_NoNumber : PySem.W.subIn K (.ref A_NoCut) (.ref A_NoNumber) = some false)
    (ne_NoCut_NoRow : A_NoCut ≠ A_NoRow)
    (ic_NoRow : PySem.W.isClsIn K A_NoRow = true)
    (e_NoCut_NoRow : PySem.W.subIn K (.ref A_NoCut) (.ref A_NoRow) = some false)
    (sv_NoCut_ValueError : PySem.W.subIn K (.ref A_NoCut) (.type "ValueError") = some true)
    (ne_NoNumber_NoCut : A_NoNumber ≠ A_NoCut)
    (ic_NoCut : PySem.W.isClsIn K A_NoCut = true)
    (e_NoNumber_NoCut : PySem.W.subIn K (.ref A_NoNumber) (.ref A_NoCut) = some false)
    (ne_NoNumber_NoRow : A_NoNumber ≠ A_NoRow)
    (e_NoNumber_NoRow : PySem.W.subIn K (.ref A_NoNumber) (.ref A_NoRow) = some false)
    (sv_NoNumber_ValueError : PySem.W.subIn K (.ref A_NoNumber) (.type "ValueError") = some true)
    (ne_NoRow_NoCut : A_NoRow ≠ A_NoCut)
    (e_NoRow_NoCut : PySem.W.subIn K (.ref A_NoRow) (.ref A_NoCut) = some false)
    (ne_NoRow_NoNumber : A_NoRow ≠ A_NoNumber)
    (e_NoRow_NoNumber : PySem.W.subIn K (.ref A_NoRow) (.ref A_NoNumber) = some false)
    (sv_NoRow_ValueError : PySem.W.subIn K (.ref A_NoRow) (.type "ValueError") = some true) : Tx K mg { ad0 with WorldError := A_WorldError, NoNumber := A_NoNumber, NoRow := A_NoRow, NoCut := A_NoCut, Disk := A_Disk, ot := ⟨[], []⟩ } := {
    a_is_integer := fa_is_integer, fd_is_integer := _, F_is_integer := fun_mk (st := s_is_integer) l_is_integer c_is_integer k_is_integer
    m_is_integer := PySem.W.mg_of X G a_is_integer
    b_is_integer := (fun_mk (st := s_is_integer) l_is_integer c_is_integer k_is_integer).binds (ps := [Str.ofString "thing"]) fun _ _ _ _ _ _ us hl => match us, hl with | [_], _ => rfl
    a_is_within := fa_is_within, fd_is_within := _, F_is_within := fun_mk (st := s_is_within) l_is_within c_is_within k_is_within
    m_is_within := PySem.W.mg_of X G a_is_within
    b_is_within := (fun_mk (st := s_is_within) l_is_within c_is_within k_is_within).binds (ps := [Str.ofString "thing", Str.ofString "least", Str.ofString "most"]) fun _ _ _ _ _ _ us hl => match us, hl with | [_, _, _], _ => rfl
    a_is_below := fa_is_below, fd_is_below := _, F_is_below := fun_mk (st := s_is_below) l_is_below c_is_below k_is_below
    m_is_below := PySem.W.mg_of X G a_is_below
    b_is_below := (fun_mk (st := s_is_below) l_is_below c_is_below k_is_below).binds (ps := [Str.ofString "thing", Str.ofString "many"]) fun _ _ _ _ _ _ us hl => match us, hl with | [_, _], _ => rfl
    a_is_sized := fa_is_sized, fd_is_sized := _, F_is_sized := fun_mk (st := s_is_sized) l_is_sized c_is_sized k_is_sized
    m_is_sized := PySem.W.mg_of X G a_is_sized
    b_is_sized := (fun_mk (st := s_is_sized) l_is_sized c_is_sized k_is_sized).binds (ps := [Str.ofString "thing", Str.ofString "least", Str.ofString "most"]) fun _ _ _ _ _ _ us hl => match us, hl with | [_, _, _], _ => rfl
    a_check_within := fa_check_within, fd_check_within := _, F_check_within := fun_mk (st := s_check_within) l_check_within c_check_within k_check_within
    m_check_within := PySem.W.mg_of X G a_check_within
    b_check_within := (fun_mk (st := s_check_within) l_check_within c_check_within k_check_within).binds (ps := [Str.ofString "thing", Str.ofString "least", Str.ofString "most"]) fun _ _ _ _ _ _ us hl => match us, hl with | [_, _, _], _ => rfl
    a_is_row := fa_is_row, fd_is_row := _, F_is_row := fun_mk (st := s_is_row) l_is_row c_is_row k_is_row
    m_is_row := PySem.W.mg_of X G a_is_row
    b_is_row := (fun_mk (st := s_is_row) l_is_row c_is_row k_is_row).binds (ps := [Str.ofString "thing"]) fun _ _ _ _ _ _ us hl => match us, hl with | [_], _ => rfl
    a_check_row := fa_check_row, fd_check_row := _, F_check_row := fun_mk (st := s_check_row) l_check_row c_check_row k_check_row
    m_check_row := PySem.W.mg_of X G a_check_row
    b_check_row := (fun_mk (st := s_check_row) l_check_row c_check_row k_check_row).binds (ps := [Str.ofString "thing"]) fun _ _ _ _ _ _ us hl => match us, hl with | [_], _ => rfl
    a_Disk_init := fa_Disk_init, fd_Disk_init := _, F_Disk_init := fun_mk (st := s_Disk_init) l_Disk_init c_Disk_init k_Disk_init
    b_Disk_init := (fun_mk (st := s_Disk_init) l_Disk_init c_Disk_init k_Disk_init).binds (ps := [Str.ofString "self"]) fun _ _ _ _ _ _ us hl => match us, hl with | [_], _ => rfl
    a_Disk_write := fa_Disk_write, fd_Disk_write := _, F_Disk_write := fun_mk (st := s_Disk_write) l_Disk_write c_Disk_write k_Disk_write
    b_Disk_write := (fun_mk (st := s_Disk_write) l_Disk_write c_Disk_write k_Disk_write).binds (ps := [Str.ofString "self", Str.ofString "row"]) fun _ _ _ _ _ _ us hl => match us, hl with | [_, _], _ => rfl
    a_Disk_sync := fa_Disk_sync, fd_Disk_sync := _, F_Disk_sync := fun_mk (st := s_Disk_sync) l_Disk_sync c_Disk_sync k_Disk_sync
    b_Disk_sync := (fun_mk (st := s_Disk_sync) l_Disk_sync c_Disk_sync k_Disk_sync).binds (ps := [Str.ofString "self"]) fun _ _ _ _ _ _ us hl => match us, hl with | [_], _ => rfl
    a_Disk_blocks := fa_Disk_blocks, fd_Disk_blocks := _, F_Disk_blocks := fun_mk (st := s_Disk_blocks) l_Disk_blocks c_Disk_blocks k_Disk_blocks
    b_Disk_blocks := (fun_mk (st := s_Disk_blocks) l_Disk_blocks c_Disk_blocks k_Disk_blocks).binds (ps := [Str.ofString "self"]) fun _ _ _ _ _ _ us hl => match us, hl with | [_], _ => rfl
    a_Disk_synced := fa_Disk_synced, fd_Disk_synced := _, F_Disk_synced := fun_mk (st := s_Disk_synced) l_Disk_synced c_Disk_synced k_Disk_synced
    b_Disk_synced := (fun_mk (st := s_Disk_synced) l_Disk_synced c_Disk_synced k_Disk_synced).binds (ps := [Str.ofString "self"]) fun _ _ _ _ _ _ us hl => match us, hl with | [_], _ => rfl
    a_Disk_cut := fa_Disk_cut, fd_Disk_cut := _, F_Disk_cut := fun_mk (st := s_Disk_cut) l_Disk_cut c_Disk_cut k_Disk_cut
    b_Disk_cut := (fun_mk (st := s_Disk_cut) l_Disk_cut c_Disk_cut k_Disk_cut).binds (ps := [Str.ofString "self", Str.ofString "kept"]) fun _ _ _ _ _ _ us hl => match us, hl with | [_, _], _ => rfl
    a_Disk_drop := fa_Disk_drop, fd_Disk_drop := _, F_Disk_drop := fun_mk (st := s_Disk_drop) l_Disk_drop c_Disk_drop k_Disk_drop
    b_Disk_drop := (fun_mk (st := s_Disk_drop) l_Disk_drop c_Disk_drop k_Disk_drop).binds (ps := [Str.ofString "self", Str.ofString "number"]) fun _ _ _ _ _ _ us hl => match us, hl with | [_, _], _ => rfl
    a_Disk_copy := fa_Disk_copy, fd_Disk_copy := _, F_Disk_copy := fun_mk (st := s_Disk_copy) l_Disk_copy c_Disk_copy k_Disk_copy
    b_Disk_copy := (fun_mk (st := s_Disk_copy) l_Disk_copy c_Disk_copy k_Disk_copy).binds (ps := [Str.ofString "self"]) fun _ _ _ _ _ _ us hl => match us, hl with | [_], _ => rfl
    a__law_pool := fa__law_pool, fd__law_pool := _, F__law_pool := fun_mk (st := s__law_pool) l__law_pool c__law_pool k__law_pool
    m__law_pool := PySem.W.mg_of X G a__law_pool
    b__law_pool := (fun_mk (st := s__law_pool) l__law_pool c__law_pool k__law_pool).binds (ps := [Str.ofString "_law_script"]) fun _ _ _ _ _ _ us hl => match us, hl with | [_], _ => rfl
    a__law_draw := fa__law_draw, fd__law_draw := _, F__law_draw := fun_mk (st := s__law_draw) l__law_draw c__law_draw k__law_draw
    m__law_draw := PySem.W.mg_of X G a__law_draw
    b__law_draw := (fun_mk (st := s__law_draw) l__law_draw c__law_draw k__law_draw).binds (ps := [Str.ofString "_law_pool_here", Str.ofString "_law_many"]) fun _ _ _ _ _ _ us hl => match us, hl with | [_, _], _ => rfl
    a__law_deep := fa__law_deep, fd__law_deep := _, F__law_deep := fun_mk (st := s__law_deep) l__law_deep c__law_deep k__law_deep
    m__law_deep := PySem.W.mg_of X G a__law_deep
    b__law_deep := (fun_mk (st := s__law_deep) l__law_deep c__law_deep k__law_deep).binds (ps := []) fun _ _ _ _ _ _ us hl => match us, hl with | [], _ => rfl
    a__law_is := fa__law_is, fd__law_is := _, F__law_is := fun_mk (st := s__law_is) l__law_is c__law_is k__law_is
    m__law_is := PySem.W.mg_of X G a__law_is
    b__law_is := (fun_mk (st := s__law_is) l__law_is c__law_is k__law_is).binds (ps := [Str.ofString "_law_told", Str.ofString "_law_due"]) fun _ _ _ _ _ _ us hl => match us, hl with | [_, _], _ => rfl
    a__law_is_row := fa__law_is_row, fd__law_is_row := _, F__law_is_row := fun_mk (st := s__law_is_row) l__law_is_row c__law_is_row k__law_is_row
    m__law_is_row := PySem.W.mg_of X G a__law_is_row
    b__law_is_row := (fun_mk (st := s__law_is_row) l__law_is_row c__law_is_row k__law_is_row).binds (ps := [Str.ofString "_law_thing"]) fun _ _ _ _ _ _ us hl => match us, hl with | [_], _ => rfl
    a__law_word := fa__law_word, fd__law_word := _, F__law_word := fun_mk (st := s__law_word) l__law_word c__law_word k__law_word
    m__law_word := PySem.W.mg_of X G a__law_word
    b__law_word := (fun_mk (st := s__law_word) l__law_word c__law_word k__law_word).binds (ps := [Str.ofString "_law_disk", Str.ofString "_law_which", Str.ofString "_law_thing"]) fun _ _ _ _ _ _ us hl => match us, hl with | [_, _, _], _ => rfl
    a__law_is_cut := fa__law_is_cut, fd__law_is_cut := _, F__law_is_cut := fun_mk (st := s__law_is_cut) l__law_is_cut c__law_is_cut k__law_is_cut
    m__law_is_cut := PySem.W.mg_of X G a__law_is_cut
    b__law_is_cut := (fun_mk (st := s__law_is_cut) l__law_is_cut c__law_is_cut k__law_is_cut).binds (ps := [Str.ofString "_law_blocks", Str.ofString "_law_synced", Str.ofString "_law_thing"]) fun _ _ _ _ _ _ us hl => match us, hl with | [_, _, _], _ => rfl
    a__law_odd := fa__law_odd, fd__law_odd := _, F__law_odd := fun_mk (st := s__law_odd) l__law_odd c__law_odd k__law_odd
    m__law_odd := PySem.W.mg_of X G a__law_odd
    b__law_odd := (fun_mk (st := s__law_odd) l__law_odd c__law_odd k__law_odd).binds (ps := [Str.ofString "_law_pool_here", Str.ofString "_law_things"]) fun _ _ _ _ _ _ us hl => match us, hl with | [_, _], _ => rfl
    a__law_led := fa__law_led, fd__law_led := _, F__law_led := fun_mk (st := s__law_led) l__law_led c__law_led k__law_led
    m__law_led := PySem.W.mg_of X G a__law_led
    b__law_led := (fun_mk (st := s__law_led) l__law_led c__law_led k__law_led).binds (ps := [Str.ofString "_law_pool_here", Str.ofString "_law_disk", Str.ofString "_law_blocks", Str.ofString "_law_synced", Str.ofString "_law_many"]) fun _ _ _ _ _ _ us hl => match us, hl with | [_, _, _, _, _], _ => rfl
    a_law := fa_law, fd_law := _, F_law := fun_mk (st := s_law) l_law c_law k_law
    m_law := PySem.W.mg_of X G a_law
    b_law := (fun_mk (st := s_law) l_law c_law k_law).binds (ps := [Str.ofString "_law_script"]) fun _ _ _ _ _ _ us hl => match us, hl with | [_], _ => rfl
    u_BYTE := _, m_BYTE := PySem.W.mg_of X G m_BYTE, v_BYTE := v_int
    u_MOST_BYTES := _, m_MOST_BYTES := PySem.W.mg_of X G m_MOST_BYTES, v_MOST_BYTES := v_int
    n_ValueError := PySem.W.mg_none_of X G n_ValueError
    n_abs := PySem.W.mg_none_of X G n_abs
    n_all := PySem.W.mg_none_of X G n_all
    n_bool := PySem.W.mg_none_of X G n_bool
    n_int := PySem.W.mg_none_of X G n_int
    n_isinstance := PySem.W.mg_none_of X G n_isinstance
    n_len := PySem.W.mg_none_of X G n_len
    n_list := PySem.W.mg_none_of X G n_list
    n_min := PySem.W.mg_none_of X G n_min
    n_range := PySem.W.mg_none_of X G n_range
    n_repr := PySem.W.mg_none_of X G n_repr
    n_sum := PySem.W.mg_none_of X G n_sum
    n_tuple := PySem.W.mg_none_of X G n_tuple
    n_zip := PySem.W.mg_none_of X G n_zip
    me_Disk_blocks := ⟨a_Disk_blocks, i_Disk_blocks, k_Disk_blocks⟩
    me_Disk_copy := ⟨a_Disk_copy, i_Disk_copy, k_Disk_copy⟩
    me_Disk_cut := ⟨a_Disk_cut, i_Disk_cut, k_Disk_cut⟩
    me_Disk_drop := ⟨a_Disk_drop, i_Disk_drop, k_Disk_drop⟩
    me_Disk_sync := ⟨a_Disk_sync, i_Disk_sync, k_Disk_sync⟩
    me_Disk_synced := ⟨a_Disk_synced, i_Disk_synced, k_Disk_synced⟩
    me_Disk_write := ⟨a_Disk_write, i_Disk_write, k_Disk_write⟩
    mk_Disk := ⟨mkc_Disk, a_Disk_init, i_Disk_init, kc_Disk⟩
    c_Disk := ⟨pg_Disk, hd_Disk, po_Disk, sa_Disk⟩
    na_Disk_lasting := na_Disk_lasting
    na_Disk_rows := na_Disk_rows
    ot := otab_nil
    m_WorldError := PySem.W.mg_of X G m_WorldError
    x_WorldError := ⟨xq_WorldError, xk_WorldError, xb_WorldError, xt_WorldError⟩
    m_NoNumber := PySem.W.mg_of X G m_NoNumber
    x_NoNumber := ⟨xq_NoNumber, xk_NoNumber, xb_NoNumber, xt_NoNumber⟩
    m_NoRow := PySem.W.mg_of X G m_NoRow
    x_NoRow := ⟨xq_NoRow, xk_NoRow, xb_NoRow, xt_NoRow⟩
    m_NoCut := PySem.W.mg_of X G m_NoCut
    x_NoCut := ⟨xq_NoCut, xk_NoCut, xb_NoCut, xt_NoCut⟩
    m_Disk := PySem.W.mg_of X G m_Disk
    e_NoCut_WorldError := exm_mk xb_WorldError ic_WorldError xt_WorldError e_NoCut_WorldError
    e_NoNumber_WorldError := exm_mk xb_WorldError ic_WorldError xt_WorldError e_NoNumber_WorldError
    e_NoRow_WorldError := exm_mk xb_WorldError ic_WorldError xt_WorldError e_NoRow_WorldError
    xe_NoCut := ⟨ga_NoCut, gg_NoCut, xb_NoCut, hd_NoCut, oa_NoCut, oh_n, oh_t, om_NoCut⟩
    xe_NoNumber := ⟨ga_NoNumber, gg_NoNumber, xb_NoNumber, hd_NoNumber, oa_NoNumber, oh_n, oh_t, om_NoNumber⟩
    xe_NoRow := ⟨ga_NoRow, gg_NoRow, xb_NoRow, hd_NoRow, oa_NoRow, oh_n, oh_t, om_NoRow⟩
    ki_NoCut_NoCut := kit_self
    ki_NoCut_NoNumber := kit_own ne_NoCut_NoNumber ic_NoNumber xt_NoNumber e_NoCut_NoNumber
    ki_NoCut_NoRow := kit_own ne_NoCut_NoRow ic_NoRow xt_NoRow e_NoCut_NoRow
    ki_NoCut_ValueError := kit_ty2 (by decide +kernel) sv_NoCut_ValueError
    ki_NoNumber_NoCut := kit_own ne_NoNumber_NoCut ic_NoCut xt_NoCut e_NoNumber_NoCut
    ki_NoNumber_NoNumber := kit_self
    ki_NoNumber_NoRow := kit_own ne_NoNumber_NoRow ic_NoRow xt_NoRow e_NoNumber_NoRow
    ki_NoNumber_ValueError := kit_ty2 (by decide +kernel) sv_NoNumber_ValueError
    ki_NoRow_NoCut := kit_own ne_NoRow_NoCut ic_NoCut xt_NoCut e_NoRow_NoCut
    ki_NoRow_NoNumber := kit_own ne_NoRow_NoNumber ic_NoNumber xt_NoNumber e_NoRow_NoNumber
    ki_NoRow_NoRow := kit_self
    ki_NoRow_ValueError := kit_ty2 (by decide +kernel) sv_NoRow_ValueError }
theorem law_mk {P : Program} {w : World} {K : PySem.W.Frag} {h : Heap} {mg : Str → Option Value} {A : Ad} {fa : Addr} (hfa : mg "law" = some (.ref fa)) (T : Tx K mg A) :
    ∃ fd : FuncData, (∀ (s : Shared) (v : Value), BindsTo s fd ⟨[v], []⟩ [(Str.ofString "_law_script", v)]) ∧ ∀ base : Heap, K.In base → base.Ns mainGlobals mg → FnD P w K mg base 9 fa fd [Str.ofString "_law_script"] spLaw := by
  have e := hfa.symm.trans T.m_law
  cases e
  refine ⟨T.fd_law, fun s v => ?_, fun base _ _ => all_mk_ok T⟩
  obtain ⟨oc, od, kV, doc, pm, an, cdv, ct, osl, e, _, _⟩ := T.F_law.ex
  rw [e]
  exact .of_eq rfl
end Lw
open PySem PySem.W PyProof.Rows
set_option maxRecDepth 100000 in
set_option maxHeartbeats 0 in
theorem PySem.Challenge.cw_guessedworlds_k53_whole_disks_by_own_mod_holds : PySem.Challenge.rw_guessedworlds_k53_whole_disks_by_own_mod.Holds := by
  w_on; o_law; k_head; (case hw => w_witness2)
  k_fill
  refine VD.walkG (l := PySem.Challenge.rw_guessedworlds_k53_whole_disks_by_own_mod) (n := 63) (k := 9) (x := "_law_script") (CX := fun w => L2.CX PySem.Challenge.rw_guessedworlds_k53_whole_disks_by_own_mod.prog w) (sp := fun w => VD.lowF _ VD.spLaw) rfl (by decide) rfl ⟨⟨rfl, by decide, by decide⟩, rfl⟩ (fun w h Y => PySem.W.kIn_of Y) ?F (fun _ _ a ns hl hS => VD.law_in hl hS) (fun _ H s e s' h => VD.law_out H s e s' h)
  case F =>
    intro w mg fa h KX G hmg
    refine' Lw.law_mk (h := h) hmg (Lw.tx_mk KX G ?a_is_integer ?l_is_integer ?c_is_integer ?k_is_integer ?a_is_within ?l_is_within ?c_is_within ?k_is_within ?a_is_below ?l_is_below ?c_is_below ?k_is_below ?a_is_sized ?l_is_sized ?c_is_sized ?k_is_sized ?a_check_within ?l_check_within ?c_check_within ?k_check_within ?a_is_row ?l_is_row ?c_is_row ?k_is_row ?a_check_row ?l_check_row ?c_check_row ?k_check_row ?a_Disk_init ?l_Disk_init ?c_Disk_init ?k_Disk_init ?a_Disk_write ?l_Disk_write ?c_Disk_write ?k_Disk_write ?a_Disk_sync ?l_Disk_sync ?c_Disk_sync ?k_Disk_sync ?a_Disk_blocks ?l_Disk_blocks ?c_Disk_blocks ?k_Disk_blocks ?a_Disk_synced ?l_Disk_synced ?c_Disk_synced ?k_Disk_synced ?a_Disk_cut ?l_Disk_cut ?c_Disk_cut ?k_Disk_cut ?a_Disk_drop ?l_Disk_drop ?c_Disk_drop ?k_Disk_drop ?a_Disk_copy ?l_Disk_copy ?c_Disk_copy ?k_Disk_copy ?a__law_pool ?l__law_pool ?c__law_pool ?k__law_pool ?a__law_draw ?l__law_draw ?c__law_draw ?k__law_draw ?a__law_deep ?l__law_deep ?c__law_deep ?k__law_deep ?a__law_is ?l__law_is ?c__law_is ?k__law_is ?a__law_is_row ?l__law_is_row ?c__law_is_row ?k__law_is_row ?a__law_word ?l__law_word ?c__law_word ?k__law_word ?a__law_is_cut ?l__law_is_cut ?c__law_is_cut ?k__law_is_cut ?a__law_odd ?l__law_odd ?c__law_odd ?k__law_odd ?a__law_led ?l__law_led ?c__law_led ?k__law_led ?a_law ?l_law ?c_law ?k_law ?m_BYTE ?m_MOST_BYTES ?n_ValueError ?n_abs ?n_all ?n_bool ?n_int ?n_isinstance ?n_len ?n_list ?n_min ?n_range ?n_repr ?n_sum ?n_tuple ?n_zip ?i_Disk_blocks ?i_Disk_copy ?i_Disk_cut ?i_Disk_drop ?i_Disk_sync ?i_Disk_synced ?i_Disk_write ?i_Disk_init ?mkc_Disk ?kc_Disk ?pg_Disk ?hd_Disk ?po_Disk ?sa_Disk ?na_Disk_lasting ?na_Disk_rows ?m_WorldError ?xq_WorldError ?xk_WorldError ?xb_WorldError ?xt_WorldError ?m_NoNumber ?xq_NoNumber ?xk_NoNumber ?xb_NoNumber ?xt_NoNumber ?m_NoRow ?xq_NoRow ?xk_NoRow ?xb_NoRow ?xt_NoRow ?m_NoCut ?xq_NoCut ?xk_NoCut ?xb_NoCut ?xt_NoCut ?m_Disk ?ic_WorldError ?e_NoCut_WorldError ?e_NoNumber_WorldError ?e_NoRow_WorldError ?ga_NoCut ?gg_NoCut ?hd_NoCut ?oa_NoCut ?om_NoCut ?ga_NoNumber ?gg_NoNumber ?hd_NoNumber ?oa_NoNumber ?om_NoNumber ?ga_NoRow ?gg_NoRow ?hd_NoRow ?oa_NoRow ?om_NoRow ?oh_n ?oh_t ?ne_NoCut_NoNumber ?ic_NoNumber ?e_NoCut_NoNumber ?ne_NoCut_NoRow ?ic_NoRow ?e_NoCut_NoRow ?sv_NoCut_ValueError ?ne_NoNumber_NoCut ?ic_NoCut ?e_NoNumber_NoCut ?ne_NoNumber_NoRow ?e_NoNumber_NoRow ?sv_NoNumber_ValueError ?ne_NoRow_NoCut ?e_NoRow_NoCut ?ne_NoRow_NoNumber ?e_NoRow_NoNumber ?sv_NoRow_ValueError)
    (case m_WorldError => k_is); (case m_NoNumber => k_is); (case m_NoRow => k_is); (case m_NoCut => k_is); (case m_Disk => k_is); (case a_is_integer => k_is); (case l_is_integer => k_is); (case c_is_integer => k_is); (case k_is_integer => k_is); (case a_is_within => k_is); (case l_is_within => k_is); (case c_is_within => k_is); (case k_is_within => k_is); (case a_is_below => k_is); (case l_is_below => k_is); (case c_is_below => k_is); (case k_is_below => k_is); (case a_is_sized => k_is); (case l_is_sized => k_is); (case c_is_sized => k_is); (case k_is_sized => k_is); (case a_check_within => k_is); (case l_check_within => k_is); (case c_check_within => k_is); (case k_check_within => k_is); (case a_is_row => k_is); (case l_is_row => k_is); (case c_is_row => k_is); (case k_is_row => k_is); (case a_check_row => k_is); (case l_check_row => k_is); (case c_check_row => k_is); (case k_check_row => k_is); (case a_Disk_init => k_is); (case l_Disk_init => k_is); (case c_Disk_init => k_is); (case k_Disk_init => k_is); (case a_Disk_write => k_is); (case l_Disk_write => k_is); (case c_Disk_write => k_is); (case k_Disk_write => k_is); (case a_Disk_sync => k_is); (case l_Disk_sync => k_is); (case c_Disk_sync => k_is); (case k_Disk_sync => k_is); (case a_Disk_blocks => k_is); (case l_Disk_blocks => k_is); (case c_Disk_blocks => k_is); (case k_Disk_blocks => k_is); (case a_Disk_synced => k_is); (case l_Disk_synced => k_is); (case c_Disk_synced => k_is); (case k_Disk_synced => k_is); (case a_Disk_cut => k_is); (case l_Disk_cut => k_is); (case c_Disk_cut => k_is); (case k_Disk_cut => k_is); (case a_Disk_drop => k_is); (case l_Disk_drop => k_is); (case c_Disk_drop => k_is); (case k_Disk_drop => k_is); (case a_Disk_copy => k_is); (case l_Disk_copy => k_is); (case c_Disk_copy => k_is); (case k_Disk_copy => k_is); (case a__law_pool => k_is); (case l__law_pool => k_is); (case c__law_pool => k_is); (case k__law_pool => k_is); (case a__law_draw => k_is); (case l__law_draw => k_is); (case c__law_draw => k_is); (case k__law_draw => k_is); (case a__law_deep => k_is); (case l__law_deep => k_is); (case c__law_deep => k_is); (case k__law_deep => k_is); (case a__law_is => k_is); (case l__law_is => k_is); (case c__law_is => k_is); (case k__law_is => k_is); (case a__law_is_row => k_is); (case l__law_is_row => k_is); (case c__law_is_row => k_is); (case k__law_is_row => k_is); (case a__law_word => k_is); (case l__law_word => k_is); (case c__law_word => k_is); (case k__law_word => k_is); (case a__law_is_cut => k_is); (case l__law_is_cut => k_is); (case c__law_is_cut => k_is); (case k__law_is_cut => k_is); (case a__law_odd => k_is); (case l__law_odd => k_is); (case c__law_odd => k_is); (case k__law_odd => k_is); (case a__law_led => k_is); (case l__law_led => k_is); (case c__law_led => k_is); (case k__law_led => k_is); (case a_law => k_is); (case l_law => k_is); (case c_law => k_is); (case k_law => k_is); (case m_BYTE => k_is); (case m_MOST_BYTES => k_is); (case n_ValueError => k_is); (case n_abs => k_is); (case n_all => k_is); (case n_bool => k_is); (case n_int => k_is); (case n_isinstance => k_is); (case n_len => k_is); (case n_list => k_is); (case n_min => k_is); (case n_range => k_is); (case n_repr => k_is); (case n_sum => k_is); (case n_tuple => k_is); (case n_zip => k_is); (case i_Disk_blocks => k_is); (case i_Disk_copy => k_is); (case i_Disk_cut => k_is); (case i_Disk_drop => k_is); (case i_Disk_sync => k_is); (case i_Disk_synced => k_is); (case i_Disk_write => k_is); (case i_Disk_init => k_is); (case mkc_Disk => k_is); (case kc_Disk => k_is); (case pg_Disk => k_is); (case hd_Disk => k_is); (case po_Disk => k_is); (case sa_Disk => k_is); (case na_Disk_lasting => k_is); (case na_Disk_rows => k_is); (case xq_WorldError => k_exc); (case xk_WorldError => k_is); (case xb_WorldError => k_is); (case xt_WorldError => k_is); (case xq_NoNumber => k_exc); (case xk_NoNumber => k_is); (case xb_NoNumber => k_is); (case xt_NoNumber => k_is); (case xq_NoRow => k_exc); (case xk_NoRow => k_is); (case xb_NoRow => k_is); (case xt_NoRow => k_is); (case xq_NoCut => k_exc); (case xk_NoCut => k_is); (case xb_NoCut => k_is); (case xt_NoCut => k_is); (case ic_WorldError => k_is); (case e_NoCut_WorldError => k_is); (case e_NoNumber_WorldError => k_is); (case e_NoRow_WorldError => k_is); (case ga_NoCut => k_is); (case gg_NoCut => k_is); (case hd_NoCut => k_is); (case oa_NoCut => k_is); (case om_NoCut => k_is); (case ga_NoNumber => k_is); (case gg_NoNumber => k_is); (case hd_NoNumber => k_is); (case oa_NoNumber => k_is); (case om_NoNumber => k_is); (case ga_NoRow => k_is); (case gg_NoRow => k_is); (case hd_NoRow => k_is); (case oa_NoRow => k_is); (case om_NoRow => k_is); (case oh_n => k_is); (case oh_t => k_is); (case ne_NoCut_NoNumber => decide); (case ic_NoNumber => k_is); (case e_NoCut_NoNumber => k_is); (case ne_NoCut_NoRow => decide); (case ic_NoRow => k_is); (case e_NoCut_NoRow => k_is); (case sv_NoCut_ValueError => k_is); (case ne_NoNumber_NoCut => decide); (case ic_NoCut => k_is); (case e_NoNumber_NoCut => k_is); (case ne_NoNumber_NoRow => decide); (case e_NoNumber_NoRow => k_is); (case sv_NoNumber_ValueError => k_is); (case ne_NoRow_NoCut => decide); (case e_NoRow_NoCut => k_is); (case ne_NoRow_NoNumber => decide); (case e_NoRow_NoNumber => k_is); (case sv_NoRow_ValueError => k_is)
