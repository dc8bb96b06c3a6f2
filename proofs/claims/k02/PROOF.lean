import PyProof.Rows.All
import Wide.All
import OpenK.AllK
import Wide.FinOn
import HandS.ForMost
import HandS.Conv
import HandS.IsInst
import HandS.Slots
import HandS.SlotsOwn
import HandS.DictComp
import HandS.TupAny
import HandS.Exc
import HandS.TryOnly
import HandS.ExcOwn
import HandS.WordsExc
import HandS.Wide
import PySem.Challenge.RW_fewersteps_k02_whole_histories_of_stream
import HandS.Codes
import HandS.Walk
import KE.GoesMore
import KE.GoesEnum
import HandS.Strs
import PyProof.InstNe
import PyProof.InstEq
import HandS.Defaults
import HandS.Zip
import HandS.FStr
import HandS.Star
import KE.KDictZip
import HandS.GenList
set_option Elab.async false
set_option maxRecDepth 100000
set_option maxHeartbeats 4000000
set_option linter.all false
set_option pp.maxSteps 250
set_option pp.maxSteps 400
namespace Fs
open PySem PySem.Spec PyProof.Rows L2

/-! ### the text by places -/
def top (i : Nat) : Stmt := PySem.Challenge.pw_fewersteps_k02_whole_histories_of_stream.main.body.getD i (.Pass ⟨0, 0, 0, 0⟩)

/-! ### promises of defs that run where no repr is on its way: the promise of L2 with what is known of the guards -/
structure FnG (P : Program) (w : World) (K : PySem.W.Frag) (mg : Str → Option Value) (base : Heap) (CX : CXT) (k : Nat) (f : Addr) (fd : FuncData) (ps : List Str) (sp : Sp) : Prop where
  lens : ∀ vs H Q E, sp vs H Q E → vs.length = ps.length
  goes : ∀ (A : Around) (outer : List Env) (s : Shared) (H : Hp) (args : Args) (us : List Value) (vs : List V) (Q : VK) (E : XK), Room k A → A.guards = some [] → Env0 P w K mg base A outer s H →
    BindsTo s fd args (ps.zip us) → Vals vs us → sp vs H Q E → codeAny (model P w) A (.call (.ref f) args) (CR CX outer P w H s Q E) s
section
variable {P : Program} {w : World} {K : PySem.W.Frag} {mg : Str → Option Value} {base : Heap} {CX : CXT} {k j : Nat} {f : Addr} {fd : FuncData} {ps : List Str} {sp : Sp}
theorem FnG.of (F : FnOk P w K mg base CX k f fd ps sp) : FnG P w K mg base CX k f fd ps sp := ⟨F.len, fun A outer s H args us vs Q E hr _ => F.run A outer s H args us vs Q E hr⟩
theorem FnG.more (F : FnG P w K mg base CX j f fd ps sp) (h : j ≤ k) : FnG P w K mg base CX k f fd ps sp :=
  ⟨F.lens, fun A outer s H args us vs Q E hr => F.goes A outer s H args us vs Q E (hr.mono h)⟩
/-- a promise by its body -/
theorem FnG.by {x qual : Str} {st : Stmt} {N : List Str} (F : L2.Fun K x qual st f fd) (S : FnScope N ps (defScope st)) (lens : ∀ vs H Q E, sp vs H Q E → vs.length = ps.length)
    (body : ∀ (cdv : Value) (A : Around) (outer : List Env) (s : Shared) (H : Hp) (vs : List V) (Q : VK) (E : XK), Room k (A.deeper (envOfC qual (defScope st) s.heap.objs.size f cdv)) → A.guards = some [] → sp vs H Q E →
      ∃ t, PSs (cxOf CX P w K mg base N qual (defScope st) f cdv A outer s H E) (defBody st) t ∧ t { nx := fun _ H' => Q .non H', rt := Q } (start N vs) H) : FnG P w K mg base CX (k + 1) f fd ps sp := by
  obtain ⟨c1, d1, v1, v2, v3, n1, cdv, v4, sl, efd, look, code⟩ := F.ex
  subst efd
  constructor
  · exact lens
  intro A outer s H args us vs Q E room guards env bind rel want
  have inK : K.In s.heap := env.mod.kin.keeps fun b o e => And.left (env.bs b o e)
  have noLim : s.heap.NoLimit := env.mod.nolimit.keeps fun b o e => And.left (env.bs b o e)
  have kinds : ∀ z ∈ ps.zip us, (defScope st).names.lookup z.1 = some .local ∨ ((defScope st).names.lookup z.1 = some .cell ∧ ((cellsFrom (s.heap.objs.size + 1) (defScope st).names []).lookup z.1).isSome = true) := by
    rintro ⟨nm, val⟩ hz
    cases S.par nm (List.of_mem_zip hz).1 with
    | inl c => exact Or.inl c
    | inr c => exact Or.inr ⟨c, PySem.W.cellsFrom_some _ _ _ (Or.inl c)⟩
  refine codeAny_call_function room.depth (inK _ _ look) rfl S.co S.gen rfl (PySem.W.codeRec_of inK code) (bind _ _ _ _ (wpAny_newFunctionEnv_cells S.kind kinds ?_))
  intro env' eEnv s' made
  subst eEnv
  refine And.intro (noLim.keeps made.toInCall.keep) (codeAny_func ?_)
  rcases body cdv A outer s H vs Q E (room.deeper _) guards want with ⟨t, der, rd⟩
  have J := inv_start (CX := CX) (E := E) S room.hd env (lens _ _ _ _ want) rel made
  have done : ∀ {σ2 : L2.St} {H2 : Hp} {s2 : Shared} {v : V} {u : Value}, Inv (cxOf CX P w K mg base N qual (defScope st) f cdv A outer s H E) [] σ2 H2 s2 → RelV v u → Q v H2 → CE outer P w H s Q u s2 := by
    intro σ2 H2 s2 v u J2 r2 q2
    exact ⟨v, H2, J2.os, J2.bare, J2.base, J2.hok, r2, q2⟩
  refine wpAny_mono (der.run [] s' _ H _ J rd) ?_ (fun _ _ he => he)
  intro fl s2 h2
  cases fl
  case ret u => rcases h2 with ⟨v, σ2, H2, J2, r2, q2⟩; exact done J2 r2 q2
  case next => rcases h2 with ⟨σ2, H2, J2, q2⟩; exact done (v := .non) (u := .none) J2 rfl q2
  case brk => rcases h2 with ⟨_, _, _, q2⟩; cases q2
  case cont => rcases h2 with ⟨_, _, _, q2⟩; cases q2
end
section
variable {X : Cx} {CX : CXT} {k : Nat} {f : Addr} {fd : FuncData} {ps : List Str} {sp : Sp} {E : XK} {x : Str} {p pos : Pos} {e : Expr} {es : List Expr} {t : TA}
/-- such a def is called with values -/
theorem call_g {pins : List (Addr × Obj)} {σ : L2.St} {H : Hp} {s : Shared} {Q : VK} {us : List Value} {vs : List V} (F : FnG X.prog X.w X.K X.mg X.base CX k f fd ps sp) (room : Room k X.A) (guards : X.A.guards = some []) (bind : Binds X.K fd ps [])
    (pass : Passes CX X E) (I : Inv X pins σ H s) (rel : Vals vs us) (want : sp vs H Q E) : wpAny (model X.prog X.w) X.A (call (.ref f) us) (EP X pins σ Q) X.xe s := by
  have e1 : (us ++ ([] : List Value)).length = ps.length := by rw [List.append_nil, ← rel.length]; exact F.lens _ _ _ _ want
  have b1 := bind s us I.kIn e1
  rw [List.append_nil] at b1
  apply wpAny_call
  refine codeAny_mono (F.goes X.A X.stack s H ⟨us, []⟩ us vs Q E room guards I.env0 b1 rel want) ?_
  intro r s' h
  match r, h with
  | .error err, h => exact pass pins σ H s err s' I h
  | .ok (.ret u), h => exact I.after h
  | .ok .next, h => exact h.elim
  | .ok .brk, h => exact h.elim
  | .ok .cont, h => exact h.elim
/-- f(e, ..) -/
theorem pe_callG (F : FnG X.prog X.w X.K X.mg X.base CX k f fd ps sp) (room : Room k X.A) (guards : X.A.guards = some []) (hg : Gl X x) (hm : X.mg x = some (.ref f)) (hk : PySem.W.keepIn X.K (.ref f) = true) (bind : Binds X.K fd ps [])
    (pass : Passes CX X E) (ha : PA X (e :: es) t) (hdb : (x == ("__debug__" : Str)) = false := by decide)
    (he : starEach (e :: es) X.env = (false, eval e X.env) :: starEach es X.env := by rfl) (hpl : (backTo pos (starEach es X.env)).any (·.1) = false := by rfl) : PE X (.Call (.Name x p) (e :: es) [] pos) (tCallS sp (fun _ => E) t) := by
  constructor
  intro pins s σ H Q I want
  apply wpAny_Call_Name_kw
  refine ld_glob I hg hm ?_ hdb
  refine PySem.W.callWith_K (h₀ := X.base) I.ok.mod.kin hk ?_ he hpl
  refine thn (ha.run pos pins s σ H _ I want) ?_
  rintro us s2 ⟨vs, H2, I2, rel, q⟩
  exact ⟨I2.kIn, call_g F room guards bind pass I2 rel q⟩
end

/-! ### a def that may be called by its name -/
structure Df (K : PySem.W.Frag) (mg : Str → Option Value) (x : Str) (st : Stmt) (ps : List Str) : Prop where
  ex : ∃ (f : Addr) (fd : FuncData), L2.Fun K x x st f fd ∧ mg x = some (.ref f) ∧ Binds K fd ps []
structure Cal (P : Program) (w : World) (K : PySem.W.Frag) (mg : Str → Option Value) (base : Heap) (k : Nat) (x : Str) (sp : Sp) : Prop where
  ex : ∃ (f : Addr) (fd : FuncData) (ps : List Str), FnG P w K mg base CX0 k f fd ps sp ∧ mg x = some (.ref f) ∧ PySem.W.keepIn K (.ref f) = true ∧ Binds K fd ps []
/-- the room and the guards of a body -/
structure Rm (k : Nat) (A : Around) : Prop where
  rm : Room k A
  gd : A.guards = some []
section
variable {P : Program} {w : World} {K : PySem.W.Frag} {mg : Str → Option Value} {base : Heap}
theorem Df.cal {x : Str} {st : Stmt} {N ps : List Str} {k : Nat} {sp : Sp} (D : Df K mg x st ps) (S : FnScope N ps (defScope st)) (lens : ∀ vs H Q E, sp vs H Q E → vs.length = ps.length)
    (body : ∀ (f : Addr) (cdv : Value) (A : Around) (outer : List Env) (s : Shared) (H : Hp) (vs : List V) (Q : VK) (E : XK), Rm k (A.deeper (envOfC x (defScope st) s.heap.objs.size f cdv)) → sp vs H Q E →
      ∃ t, PSs (cxOf CX0 P w K mg base N x (defScope st) f cdv A outer s H E).nox (defBody st) t ∧ t { nx := fun _ H' => Q .non H', rt := Q } (start N vs) H) : Cal P w K mg base (k + 1) x sp := by
  obtain ⟨f, fd, F, m, b⟩ := D.ex
  refine ⟨f, fd, ps, FnG.by F S lens (fun cdv A outer s H vs Q E room guards want => ?_), m, F.kp, b⟩
  obtain ⟨t, d, r⟩ := body f cdv A outer s H vs Q E ⟨room, guards⟩ want
  exact ⟨t, d.nox, r⟩
end
section
variable {X : Cx} {k j : Nat} {x : Str} {sp : Sp} {p pos : Pos} {e : Expr} {es : List Expr} {t : TA}
/-- f(e, ..), f a def of the module -/
theorem pc (c : Cal X.prog X.w X.K X.mg X.base k x sp) (hr : Rm j X.A) (ha : PA X (e :: es) t) (hk : k ≤ j := by decide) (hg : Gl X x := by rfl)
    (hdb : (x == ("__debug__" : Str)) = false := by decide) (he : starEach (e :: es) X.env = (false, eval e X.env) :: starEach es X.env := by rfl) (hpl : (backTo pos (starEach es X.env)).any (·.1) = false := by rfl) :
    PE X (.Call (.Name x p) (e :: es) [] pos) (tCallS sp (fun _ => E0) t) := by
  obtain ⟨f, fd, ps, F, hm, kp, b⟩ := c.ex
  exact pe_callG F (hr.rm.mono hk) hr.gd hg hm kp b pass0 ha hdb he hpl
/-- a built-in function, a built-in class, called by name -/
theorem pb {id : String} {r : List V → Hp → VK → Prop} (hc : CallR X (.builtin id) r) (hm : X.mg x = none) (ha : PA X (e :: es) t) (hv : bootBuiltins x = some (.builtin id) := by decide +kernel) (hg : Gl X x := by rfl) (hn : x ≠ "__name__" := by decide) (hdb : (x == ("__debug__" : Str)) = false := by decide)
    (he : starEach (e :: es) X.env = (false, eval e X.env) :: starEach es X.env := by rfl) (hpl : (backTo pos (starEach es X.env)).any (·.1) = false := by rfl) : PE X (.Call (.Name x p) (e :: es) [] pos) (tCB r t) := pe_callB hc hg hm hv ha hn hdb he hpl
theorem pt {T : String} {r : List V → Hp → VK → Prop} (hc : CallR X (.type T) r) (hm : X.mg x = none) (ha : PA X (e :: es) t) (hv : bootBuiltins x = some (.type T) := by decide +kernel) (hg : Gl X x := by rfl) (hn : x ≠ "__name__" := by decide) (hdb : (x == ("__debug__" : Str)) = false := by decide)
    (he : starEach (e :: es) X.env = (false, eval e X.env) :: starEach es X.env := by rfl) (hpl : (backTo pos (starEach es X.env)).any (·.1) = false := by rfl) : PE X (.Call (.Name x p) (e :: es) [] pos) (tCB r t) := pe_callTy hc hg hm hv ha hn hdb he hpl
end

/-! ### rules that hand on a letter -/
theorem OpR.imp {X : Cx} {f : Value → Value → Sem Value} {r r' : R2} (h : OpR X f r) (hi : ∀ x y H Q, r' x y H Q → r x y H Q) : OpR X f r' :=
  fun pins s σ H x y v u Q I rx ry q => h pins s σ H x y v u Q I rx ry (hi x y H Q q)
theorem CallR.imp {X : Cx} {f : Value} {r r' : List V → Hp → VK → Prop} (h : CallR X f r) (hi : ∀ xs H Q, r' xs H Q → r xs H Q) : CallR X f r' :=
  fun pins s σ H xs us Q I rx q => h pins s σ H xs us Q I rx (hi xs H Q q)
theorem MtR.imp {X : Cx} {id : String} {r r' : V → List V → Hp → VK → Prop} (h : MtR X id r) (hi : ∀ x xs H Q, r' x xs H Q → r x xs H Q) : MtR X id r' :=
  fun pins s σ H x xs v us Q I rx rs q => h pins s σ H x xs v us Q I rx rs (hi x xs H Q q)
/-- a % b, b positive: any rest -/
def rModR : R2 := fun x y H Q => ∃ i j, x = .int i ∧ y = .int j ∧ 0 < j ∧ ∀ r, 0 ≤ r → r < j → Q (.int r) H
theorem op_modR {X : Cx} : OpR X (binaryOp .Mod) rModR := OpR.imp op_modN fun x y H Q ⟨i, j, e1, e2, hj, q⟩ => ⟨i, j, e1, e2, by omega, q _ (Int.fmod_nonneg_of_pos _ hj) (Int.fmod_lt_of_pos _ hj)⟩
/-- a // b, a not negative, b positive and small: any part -/
def rDivR : R2 := fun x y H Q => ∃ i j, x = .int i ∧ y = .int j ∧ 0 ≤ i ∧ 0 < j ∧ j < 1073741824 ∧ ∀ r, 0 ≤ r → r ≤ i → Q (.int r) H
theorem op_divR {X : Cx} : OpR X (binaryOp .FloorDiv) rDivR := OpR.imp op_fdivN fun x y H Q ⟨i, j, e1, e2, h0, hj, hj2, q⟩ => ⟨i, j, e1, e2, ⟨by omega, by omega⟩, q _ (Int.fdiv_nonneg h0 (by omega)) (by
  rw [Int.fdiv_eq_ediv_of_nonneg _ (by omega)]
  exact Int.ediv_le_self _ h0)⟩
/-- int of an int -/
def rIntI : List V → Hp → VK → Prop := fun xs H Q => ∃ i, xs = [.int i] ∧ Q (.int i) H
theorem call_intI {X : Cx} : CallR X (.type "int") rIntI := CallR.imp call_int1 fun xs H Q h => .inl h
/-- a * b of ints, one of them below 2 ^ 64: any int -/
def rMulR : R2 := fun x y H Q => ∃ i j, x = .int i ∧ y = .int j ∧ CMul i j ∧ ∀ r, r = i * j → Q (.int r) H
theorem op_mulR {X : Cx} : OpR X (binaryOp .Mult) rMulR := OpR.imp op_mul fun x y H Q ⟨i, j, e1, e2, c, q⟩ => ⟨i, j, e1, e2, c, q _ rfl⟩

/-! ### the built-in names that the text does not bind -/
structure Bs (mg : Str → Option Value) : Prop where
  z_len : mg "len" = none
  z_int : mg "int" = none
  z_abs : mg "abs" = none
  z_max : mg "max" = none
  z_min : mg "min" = none
  z_list : mg "list" = none
  z_tuple : mg "tuple" = none
  z_range : mg "range" = none
  z_sorted : mg "sorted" = none
  z_isinstance : mg "isinstance" = none
  z_str : mg "str" = none
  z_all : mg "all" = none
  z_zip : mg "zip" = none
  z_set : mg "set" = none
  z_repr : mg "repr" = none
  z_dict : mg "dict" = none

/-! ### the pot -/
/-- the pot at a: what is left of the digits, the seed, how often it was drawn -/
structure Pot (H : Hp) (a : Addr) : Prop where
  ex : ∃ p0 p1 p2 : Int, H a = some (.lst [.int p0, .int p1, .int p2]) ∧ 0 ≤ p0 ∧ 0 ≤ p1 ∧ p1 < 2305843009213693921 ∧ 0 ≤ p2
/-- the heap without what stands at a -/
def hid (a : Addr) (H : Hp) : Hp := fun b => if b = a then none else H b
theorem hid_ne {a b : Addr} {H : Hp} (h : b ≠ a) : hid a H b = H b := if_neg h
theorem hid_some {a b : Addr} {H : Hp} {o : HO} (h : hid a H b = some o) : b ≠ a ∧ H b = some o := by
  unfold hid at h
  by_cases e : b = a
  · rw [if_pos e] at h; cases h
  · rw [if_neg e] at h; exact ⟨e, h⟩
theorem hid_le (a : Addr) (H : Hp) : Same (hid a H) H := fun _ _ h => (hid_some h).2
theorem hid_upd_self {a : Addr} {H : Hp} {o : HO} : hid a (upd H a o) = hid a H := by
  funext b
  by_cases e : b = a
  · subst e; unfold hid; rw [if_pos rfl, if_pos rfl]
  · rw [hid_ne e, hid_ne e, upd_ne e]
/-- from H to H': the pot stays a pot, all else stays -/
structure Stp (a : Addr) (H H' : Hp) : Prop where
  pot : Pot H' a
  same : Same (hid a H) (hid a H')
theorem Stp.refl {a : Addr} {H : Hp} (h : Pot H a) : Stp a H H := ⟨h, Same.refl _⟩
theorem Stp.trans {a : Addr} {H H1 H2 : Hp} (x : Stp a H H1) (y : Stp a H1 H2) : Stp a H H2 := ⟨y.pot, x.same.trans y.same⟩
theorem Pot.ne {H : Hp} {a p : Addr} (h : Pot H a) (hp : H p = none) : p ≠ a := by
  obtain ⟨_, _, _, e, _⟩ := h.ex
  exact (ne_of_none e hp).symm
theorem Pot.upd {H : Hp} {a p : Addr} {o : HO} (h : Pot H a) (hp : p ≠ a) : Pot (upd H p o) a := by
  obtain ⟨p0, p1, p2, e, r⟩ := h.ex
  exact ⟨p0, p1, p2, by rw [upd_ne hp.symm]; exact e, r⟩
/-- a new object -/
theorem Stp.new {a p : Addr} {H H1 : Hp} {o : HO} (x : Stp a H H1) (hp : H1 p = none) : Stp a H (upd H1 p o) :=
  ⟨x.pot.upd (x.pot.ne hp), fun b u e => by
    obtain ⟨hb, e1⟩ := hid_some (x.same b u e)
    rw [hid_ne hb, upd_ne (ne_of_none e1 hp)]
    exact e1⟩
/-- an object that H does not know is changed -/
theorem Stp.mut {a p : Addr} {H H1 : Hp} {o : HO} (x : Stp a H H1) (hp : H p = none) (ne : p ≠ a) : Stp a H (upd H1 p o) :=
  ⟨x.pot.upd ne, fun b u e => by
    obtain ⟨hb, e1⟩ := hid_some (x.same b u e)
    obtain ⟨_, e0⟩ := hid_some e
    rw [hid_ne hb, upd_ne (ne_of_none e0 hp)]
    exact e1⟩
theorem Stp.get {a b : Addr} {H H1 : Hp} {o : HO} (x : Stp a H H1) (h : H b = some o) (ne : b ≠ a) : H1 b = some o :=
  (hid_some (x.same b o (by rw [hid_ne ne]; exact h))).2
theorem Stp.free {a p : Addr} {H H1 : Hp} (x : Stp a H H1) (h : H1 p = none) (ne : p ≠ a) : H p = none := by
  cases q : H p with
  | none => rfl
  | some o => rw [x.get q ne] at h; cases h

/-- any number below the total -/
def spDip : Sp := fun vs H Q _ => ∃ (a : Addr) (n : Int), vs = [.ref a, .int n] ∧ Pot H a ∧ 0 < n ∧ n < 1073741824 ∧ ∀ (r : Int) (H' : Hp), 0 ≤ r → r < n → Stp a H H' → Q (.int r) H'
abbrev s_dip : Stmt := top 25
section
variable {P : Program} {w : World} {K : PySem.W.Frag} {mg : Str → Option Value} {base : Heap}
theorem sc_dip : FnScope ["pot", "total", "found", "one", "two"] ["pot", "total"] (defScope s_dip) := ⟨rfl, rfl, rfl, by decide +kernel, rfl, by decide +kernel, by decide +kernel⟩
theorem cal_dip (T : Bs mg) (D : Df K mg "_law_dip" s_dip ["pot", "total"]) : Cal P w K mg base 1 "_law_dip" spDip := by
  refine D.cal sc_dip (fun vs H Q E h => ?_) (fun f cdv A outer s H vs Q E hr h => ?_)
  · obtain ⟨a, n, rfl, _⟩ := h
    rfl
  · obtain ⟨a, n, rfl, hp, h0, hn, k⟩ := h
    refine ⟨_, pss_cons (ps_if (pt_cmpR op_gt (pe_ix ix_list (pv 0) pe_int (fun _ _ => rfl)) pe_int (nomark _))
        (pss_cons (ps_set (i := 2) sc_dip.nd rfl (.inl rfl) (pe_op op_modR (pt call_intI T.z_int (pa_cons (pe_ix ix_list (pv 0) pe_int (fun _ _ => rfl)) pa_nil)) (pv 1)))
        (pss_cons (ps_asg (pe_op op_divR (pe_ix ix_list (pv 0) pe_int (fun _ _ => rfl)) (pv 1)) (pg_sub (pv 0) pe_int set_list))
        (pss_one (ps_ret (pv 2))))) pss_nil)
      (pss_cons (ps_asg (pe_op op_add (pe_ix ix_list (pv 0) pe_int (fun _ _ => rfl)) pe_int) (pg_sub (pv 0) pe_int set_list))
      (pss_cons (ps_set (i := 3) sc_dip.nd rfl (.inl rfl) (pe_op op_modR (pt call_intI T.z_int (pa_cons (pe_op op_add (pe_op op_mulR (pe_ix ix_list (pv 0) pe_int (fun _ _ => rfl)) pe_int) (pe_op op_mulR (pe_ix ix_list (pv 0) pe_int (fun _ _ => rfl)) pe_int)) pa_nil)) pe_int))
      (pss_cons (ps_set (i := 4) sc_dip.nd rfl (.inl rfl) (pe_op op_modR (pt call_intI T.z_int (pa_cons (pe_op op_add (pe_op op_mulR (pv 3) (pv 3)) (pe_op op_mulR pe_int (pe_ix ix_list (pv 0) pe_int (fun _ _ => rfl)))) pa_nil)) pe_int))
      (pss_one (ps_ret (pe_op op_modR (pt call_intI T.z_int (pa_cons (pe_op op_divR (pe_op op_modR (pt call_intI T.z_int (pa_cons (pe_op op_add (pe_op op_mulR (pv 4) pe_int) (pv 3)) pa_nil)) pe_int) pe_int) pa_nil)) (pv 1))))))), ?_⟩
    obtain ⟨p0, p1, p2, e, g0, g1, g1', g2⟩ := hp.ex
    refine ⟨_, rfl, a, _, 0, .int p0, rfl, rfl, SqL.of e, rfl, _, _, rfl, rfl, _, rfl, ?_⟩
    refine ite2 (fun hc => ?_) (fun hc => ?_)
    · have hc : 0 < p0 := of_decide_eq_true hc
      refine ⟨_, rfl, a, _, 0, .int p0, rfl, rfl, SqL.of e, rfl, _, rfl, ?_⟩
      refine ⟨_, rfl, _, _, rfl, rfl, h0, fun r r0 r1 => ?_⟩
      refine ⟨_, rfl, a, _, 0, .int p0, rfl, rfl, SqL.of e, rfl, ?_⟩
      refine ⟨_, rfl, _, _, rfl, rfl, by omega, h0, hn, fun d d0 d1 => ?_⟩
      refine ⟨_, rfl, a, _, 0, 0, rfl, rfl, e, rfl, ?_⟩
      refine ⟨_, rfl, ?_⟩
      exact k _ _ r0 r1 ⟨⟨_, _, _, upd_same, d0, g1, g1', g2⟩, by rw [hid_upd_self]; exact Same.refl _⟩
    · refine ⟨_, rfl, a, _, 2, .int p2, rfl, rfl, SqL.of e, rfl, _, _, rfl, rfl, ?_⟩
      refine ⟨_, rfl, a, _, 2, 2, rfl, rfl, e, rfl, ?_⟩
      refine ⟨_, rfl, a, _, 1, .int p1, rfl, rfl, SqL.of upd_same, rfl, _, _, rfl, rfl, .inl ⟨by omega, by omega⟩, fun m1 _ => ?_⟩
      refine ⟨_, rfl, a, _, 2, .int (p2 + 1), rfl, rfl, SqL.of upd_same, rfl, _, _, rfl, rfl, .inr ⟨by omega, by omega⟩, fun m2 _ => ?_⟩
      refine ⟨_, _, rfl, rfl, _, rfl, _, _, rfl, rfl, by omega, fun o1 o10 o11 => ?_⟩
      refine ⟨_, rfl, _, rfl, _, _, rfl, rfl, .inl ⟨by omega, by omega⟩, fun m3 _ => ?_⟩
      refine ⟨_, rfl, a, _, 2, .int (p2 + 1), rfl, rfl, SqL.of upd_same, rfl, _, _, rfl, rfl, .inl ⟨by omega, by omega⟩, fun m4 _ => ?_⟩
      refine ⟨_, _, rfl, rfl, _, rfl, _, _, rfl, rfl, by omega, fun t1 t10 t11 => ?_⟩
      refine ⟨_, rfl, _, _, rfl, rfl, .inl ⟨by omega, by omega⟩, fun m5 _ => ?_⟩
      refine ⟨_, rfl, _, _, rfl, rfl, _, rfl, _, _, rfl, rfl, by omega, fun r1 r10 r11 => ?_⟩
      refine ⟨_, _, rfl, rfl, r10, by omega, by omega, fun r2 r20 r21 => ?_⟩
      refine ⟨_, rfl, _, rfl, _, _, rfl, rfl, h0, fun r3 r30 r31 => ?_⟩
      exact k _ _ r30 r31 ⟨⟨_, _, _, upd_same, g0, g1, g1', by omega⟩, by rw [hid_upd_self]; exact Same.refl _⟩
end
end Fs
namespace Fs
open PySem PySem.Spec PyProof.Rows L2

/-! ### the law's call, from such a promise -/
section
variable {P : Program} {w : World} {K : PySem.W.Frag} {mg mb : Str → Option Value} {CX : CXT} {k : Nat} {fa a : Addr} {fd : FuncData} {x : Str} {sp : Sp} {s1 : Shared} {vs : List Value} {ns : List Int}
/-- from an abstract heap that knows at most the script -/
theorem begin_at (inK : K.In s1.heap) (n1 : s1.heap.Ns mainGlobals mg) (n2 : s1.heap.Ns builtinsNs mb) (n3 : ∀ y : Str, y ≠ "__name__" → mb y = bootBuiltins y) (lim : s1.heap.NoLimit) (gens : s1.gens = #[])
    (obj : s1.heap.get? a = some { cls := .type "list", data := .seq vs.toArray }) (room : Room k callerA)
    (F : ∀ base : Heap, K.In base → base.Ns mainGlobals mg → FnG P w K mg base CX k fa fd [x] sp) (bind : ∀ (s : Shared) (u : Value), BindsTo s fd ⟨[u], []⟩ [(x, u)])
    (H : Hp) (only : Only H) (want : sp [.ref a] H (fun v _ => v = .bl true) fun _ _ _ => False) (hok : HOk P w H s1.heap) (knows : ∀ b, H b ≠ none → b = a) (own : H a ≠ none → K.lookup a = none)
    (exc : ∀ e s', CX [] H s1 (fun _ _ _ => False) e s' → False) :
    codeAny (model P w) callerA (.call (.ref fa) ⟨[.ref a], []⟩) (fun r s' => r = .ok (.ret (.bool true)) ∧ OldK s1.heap s'.heap ∧ s'.os = s1.os ∧ AllBare s'.gens) s1 := by
  have not_dict : ∀ (b : Addr) (o : Obj) (es : Array DictEntry) (ep : Nat), s1.heap.get? b = some o → o.data = .dict es ep → H b = none := by
    intro b o es ep h1 h2
    by_cases hb : H b = none
    · exact hb
    · have e1 := knows b hb
      rw [e1, obj] at h1
      cases h1
      cases h2
  have nsp : ∀ (b : Addr) (m : Str → Option Value), s1.heap.Ns b m → (hidT s1.heap H).Ns b m := by
    rintro b m ⟨o, es, ep, h1, h2, h3⟩
    exact ⟨o, es, ep, hidT_get h1 (not_dict b o es ep h1 h2), h2, h3⟩
  have inB : K.In (hidT s1.heap H) := by
    intro b o h1
    refine hidT_get (inK b o h1) ?_
    by_cases hb : H b = none
    · exact hb
    · have e1 := knows b hb
      rw [e1] at h1 hb
      have e2 := own hb
      rw [e2] at h1
      cases h1
  have md : Mod K mg (hidT s1.heap H) := by
    refine ⟨inB, nsp _ _ n1, ⟨mb, nsp _ _ n2, n3⟩, ?_⟩
    obtain ⟨mc, h1, h2⟩ := lim
    exact ⟨mc, nsp _ _ h1, h2⟩
  have e0 : Env0 P w K mg (hidT s1.heap H) callerA [] s1 H :=
    ⟨rfl, md, fun _ _ h1 => of_hidT h1, Nat.le_of_eq (hidT_size _ _), trivial, (fun _ hb => nomatch hb), hok, .of_eq gens⟩
  have run := (F _ inB (nsp _ _ n1)).goes callerA [] s1 H ⟨[.ref a], []⟩ [.ref a] [.ref a] _ _ room rfl e0 (bind s1 (.ref a)) (.cons rfl .nil) want
  refine codeAny_mono run ?_
  intro r s' h
  match r, h with
  | .error e, h => exact (exc e s' h).elim
  | .ok .next, h => exact h.elim
  | .ok .brk, h => exact h.elim
  | .ok .cont, h => exact h.elim
  | .ok (.ret u), h =>
    obtain ⟨v, H', os, bare, un, hok', rel, q⟩ := h
    have q : v = .bl true := q
    subst q
    have eu : u = Value.bool true := rel
    subst eu
    refine ⟨rfl, OldK.of_keep ?_, os, bare⟩
    intro b o h1
    rcases only b with z | ⟨ob, ys, z⟩
    · exact un.keep b o h1 z (fun c => by cases c) (fun c => by cases c)
    · have g1 := (hok b _ z).1
      have g2 := (hok' b _ (un.frzs b ob _ z)).1
      rw [h1] at g1
      cases g1
      exact g2
theorem ints_vals : ∀ {us : List Value} {ms : List Int}, IntsAre us ms → Vals (ms.map V.int) us
  | [], [], .nil => Paired.nil
  | _ :: _, _ :: _, .cons n t h => Paired.cons ⟨t, rfl⟩ (ints_vals h)
theorem begin_g (inK : K.In s1.heap) (n1 : s1.heap.Ns mainGlobals mg) (n2 : s1.heap.Ns builtinsNs mb) (n3 : ∀ y : Str, y ≠ "__name__" → mb y = bootBuiltins y) (lim : s1.heap.NoLimit) (gens : s1.gens = #[])
    (obj : s1.heap.get? a = some { cls := .type "list", data := .seq vs.toArray }) (itv : IntsAre vs ns) (len : ns.length ≤ sizeLine) (room : Room k callerA)
    (F : ∀ base : Heap, K.In base → base.Ns mainGlobals mg → FnG P w K mg base CX k fa fd [x] sp) (bind : ∀ (s : Shared) (u : Value), BindsTo s fd ⟨[u], []⟩ [(x, u)])
    (want : ∀ H : Hp, Only H → SqL K H a (ns.map V.int) → sp [.ref a] H (fun v _ => v = .bl true) fun _ _ _ => False) (exc : ∀ H e s', CX [] H s1 (fun _ _ _ => False) e s' → False) :
    codeAny (model P w) callerA (.call (.ref fa) ⟨[.ref a], []⟩) (fun r s' => r = .ok (.ret (.bool true)) ∧ OldK s1.heap s'.heap ∧ s'.os = s1.os ∧ AllBare s'.gens) s1 := by
  have rel := ints_vals itv
  have sz : (ns.map V.int).length ≤ sizeLine := by rw [List.length_map]; exact len
  by_cases hk : ∃ o, K.lookup a = some o
  · obtain ⟨o, hk⟩ := hk
    have eo := (inK a o hk).symm.trans obj
    cases eo
    have only : Only (fun _ => none) := fun _ => Or.inl rfl
    exact begin_at inK n1 n2 n3 lim gens obj room F bind _ only (want _ only (Or.inr ⟨_, vs.toArray, _, hk, rfl, rfl, rfl, by rw [List.size_toArray, itv.length]; exact len, by simpa using rel⟩))
      (fun _ _ z => nomatch z) (fun _ z => (z rfl).elim) (fun z => (z rfl).elim) (exc _)
  · have hk' : K.lookup a = none := by
      cases q : K.lookup a with
      | none => rfl
      | some o => exact (hk ⟨o, q⟩).elim
    let H0 : Hp := upd (fun _ => none) a (.frz { cls := .type "list", data := .seq vs.toArray } (.lst (ns.map V.int)))
    have at_a : H0 a = some (.frz { cls := .type "list", data := .seq vs.toArray } (.lst (ns.map V.int))) := upd_same
    have off : ∀ b, b ≠ a → H0 b = none := fun b hb => upd_ne hb
    have only : Only H0 := fun b => if e : b = a then Or.inr ⟨_, _, e ▸ at_a⟩ else Or.inl (off b e)
    refine begin_at inK n1 n2 n3 lim gens obj room F bind H0 only (want _ only (Or.inl (Or.inr ⟨_, at_a⟩))) ?_ (fun b hb => ?_) (fun _ => hk') (exc _)
    · intro b u hb
      by_cases e : b = a
      · subst e
        rw [at_a] at hb
        cases hb
        exact ⟨obj, sz, vs, _, rel, obj⟩
      · rw [off b e] at hb
        cases hb
    · by_cases e : b = a
      · exact e
      · exact (hb (off b e)).elim
end
theorem walk_g {l : PySem.W.OpenLaw} {n k : Nat} {q : Program} {loose : List Str} {XP : (Str → Option Value) → Heap → Prop} {YP : World → Heap → Prop} {d : DefRec} {K : Params → PySem.W.Frag} {CX : World → CXT} {sp : World → Sp} {x : Str}
    (h1 : l.most = some n) (h2 : n ≤ sizeLine) (h3 : d.params.defaults = []) (room : Room k callerA) (inK : ∀ (w : World) (h : Heap), YP w h → (K w.params).In h)
    (F : ∀ (w : World) (mg : Str → Option Value) (fa : Addr) (h : Heap), (K w.params).In h → h.Ns mainGlobals mg → mg d.name = some (.ref fa) → ∃ fd : FuncData, (∀ (s : Shared) (u : Value), BindsTo s fd ⟨[u], []⟩ [(x, u)]) ∧
      ∀ base : Heap, (K w.params).In base → base.Ns mainGlobals mg → FnG l.prog w (K w.params) mg base (CX w) k fa fd [x] (sp w))
    (want : ∀ (w : World) (H : Hp) (a : Addr) (ns : List Int), ns.length ≤ n → Only H → SqL (K w.params) H a (ns.map V.int) → sp w [.ref a] H (fun v _ => v = .bl true) fun _ _ _ => False)
    (exc : ∀ (w : World) (H : Hp) (s : Shared) (e : Value) (s' : Shared), CX w [] H s (fun _ _ _ => False) e s' → False) : PySem.W.WalkO q loose XP YP l.row.toRowW d [] (fun f vs => PySem.call f vs) := by
  apply Att.attach_call h1 h3
  intro w s₀ s₁ mg mb fa o pm cd doc a vs ns G Y _ _ _ hmg obj itv len gens
  have inH := inK w _ Y
  obtain ⟨fd, bind, FF⟩ := F w mg fa _ inH G.T.g hmg
  exact begin_g inH G.T.g G.T.b G.T.builtins G.T.nolimit gens obj itv (Nat.le_trans len h2) room FF bind (fun H c1 c2 => want w H a ns len c1 c2) (fun H e s' c => exc w H s₁ e s' c)
end Fs
namespace Fs
open PySem PySem.Spec PyProof.Rows L2

theorem IxR.imp {X : Cx} {r r' : R2} (h : IxR X r) (hi : ∀ x y H Q, r' x y H Q → r x y H Q) : IxR X r' :=
  fun value slice pins s σ H x y v u Q I rx ry q e => h value slice pins s σ H x y v u Q I rx ry (hi x y H Q q) e
/-- one sign as a text -/
abbrev S1 (c : Nat) : V := .str ⟨#[c]⟩
/-- what may be drawn from: a list, a tuple, a text, with these items -/
def Of3 (K : PySem.W.Frag) (H : Hp) (x : V) (l : List V) : Prop := (∃ p, x = .ref p ∧ (SqL K H p l ∨ SqT K H p l)) ∨ ∃ z : Str, x = .str z ∧ z.length ≤ 100000 ∧ l = z.cps.toList.map S1
theorem same_tup {K : PySem.W.Frag} {H H' : Hp} {a : Addr} {xs : List V} (e : Same H H') (h : SqT K H a xs) : SqT K H' a xs := by
  rcases h with (h | ⟨o, h⟩) | h
  · exact .inl (.inl (e _ _ h))
  · exact .inl (.inr ⟨o, e _ _ h⟩)
  · exact .inr h
theorem Of3.same {K : PySem.W.Frag} {H H' : Hp} {x : V} {l : List V} (e : Same H H') (h : Of3 K H x l) : Of3 K H' x l := by
  rcases h with ⟨p, ex, h | h⟩ | h
  · exact .inl ⟨p, ex, .inl (e.seq h)⟩
  · exact .inl ⟨p, ex, .inr (same_tup e h)⟩
  · exact .inr h
theorem Of3.lst {K : PySem.W.Frag} {H : Hp} {p : Addr} {l : List V} (h : H p = some (.lst l)) : Of3 K H (.ref p) l := .inl ⟨p, rfl, .inl (SqL.of h)⟩
theorem Of3.tup {K : PySem.W.Frag} {H : Hp} {p : Addr} {l : List V} (h : H p = some (.tup l)) : Of3 K H (.ref p) l := .inl ⟨p, rfl, .inr (SqT.of h)⟩
theorem Of3.str {K : PySem.W.Frag} {H : Hp} {z : Str} (h : z.length ≤ 100000) : Of3 K H (.str z) (z.cps.toList.map S1) := .inr ⟨z, rfl, h, rfl⟩
section
variable {X : Cx}
def rLen3 (K : PySem.W.Frag) : List V → Hp → VK → Prop := fun xs H Q => ∃ x l, xs = [x] ∧ Of3 K H x l ∧ Q (.int l.length) H
theorem call_len3 : CallR X (.builtin "len") (rLen3 X.K) := CallR.imp (CallR.or call_len_seq call_len_str) fun xs H Q ⟨x, l, e, h, q⟩ => by
  rcases h with ⟨p, ex, h⟩ | ⟨z, ex, hz, el⟩
  · subst ex
    exact .inl ⟨p, l, e, h, q⟩
  · subst ex el
    refine .inr ⟨z, e, Nat.le_trans hz (by decide), ?_⟩
    rw [List.length_map] at q
    exact q
def rIx3 (K : PySem.W.Frag) : R2 := fun x y H Q => ∃ l i v, y = .int i ∧ Of3 K H x l ∧ 0 ≤ i ∧ l[i.toNat]? = some v ∧ Q v H
theorem atI_of {α : Type} {l : List α} {i : Int} {v : α} (h0 : 0 ≤ i) (h : l[i.toNat]? = some v) : atI l i = some v := by
  have e : ((i.toNat : Nat) : Int) = i := Int.toNat_of_nonneg h0
  rw [← e]
  exact atI_nat h
theorem ix_3 : IxR X (rIx3 X.K) := IxR.imp ix_seq fun x y H Q ⟨l, i, v, ey, h, h0, hv, q⟩ => by
  subst ey
  rcases h with ⟨p, ex, h | h⟩ | ⟨z, ex, hz, el⟩
  · subst ex
    exact .inl ⟨p, l, i, v, rfl, rfl, h, atI_of h0 hv, q⟩
  · subst ex
    exact .inr (.inl ⟨p, l, i, v, rfl, rfl, h, atI_of h0 hv, q⟩)
  · subst ex el
    rw [List.getElem?_map] at hv
    obtain ⟨c, hc, ec⟩ := Option.map_eq_some_iff.mp hv
    subst ec
    exact .inr (.inr ⟨z, i, c, rfl, rfl, Nat.le_trans hz (by decide), atI_of h0 hc, q⟩)
/-- list(x) -/
def rList3 (K : PySem.W.Frag) : List V → Hp → VK → Prop := fun xs H Q => ∃ x l, xs = [x] ∧ Of3 K H x l ∧ ∀ p, H p = none → Q (.ref p) (upd H p (.lst l))
theorem call_listS (hc : X.calm = true) : CallR X (.type "list") (fun xs H Q => ∃ z : Str, xs = [.str z] ∧ z.length ≤ 100000 ∧ ∀ p, H p = none → Q (.ref p) (upd H p (.lst (z.cps.toList.map S1)))) := by
  intro pins s σ H xs us Q I rel h
  obtain ⟨z, ex, hz, q⟩ := h
  subst ex
  obtain ⟨u, eu, rx⟩ := vals1 rel
  subst eu
  obtain ⟨t, et⟩ := rx
  subst et
  have hz' : z.cps.size ≤ sizeLine := Nat.le_trans hz (by decide)
  refine call_list_str (I.ok.hd hc) z t (fun h' tk acc c kp at_ of_ => ?_) hz'
  refine ⟨.ref _, _, I.laid (t' := tk) kp (Nat.le_refl _) (show ObjOk X.prog X.w _ h' _ (.lst (z.cps.toList.map S1)) from ⟨?_, acc.toList, c, ?_, by simpa using at_⟩), rfl, q _ (I.hok.fresh (Nat.le_refl _))⟩
  · rw [List.length_map, Array.length_toList]; exact hz'
  · refine vals_of_at (by rw [List.length_map, Array.length_toList, Array.length_toList]; exact of_.1.symm) fun j x w h1 h2 => ?_
    rw [Array.getElem?_toList] at h2
    obtain ⟨c', t', hc', ew⟩ := of_.2 j w h2
    subst ew
    rw [List.getElem?_map, Array.getElem?_toList, hc'] at h1
    cases h1
    exact ⟨t', rfl⟩
theorem call_list3 (hc : X.calm = true) : CallR X (.type "list") (rList3 X.K) := CallR.imp (CallR.or call_list_of (call_listS hc)) fun xs H Q ⟨x, l, e, h, q⟩ => by
  rcases h with ⟨p, ex, h⟩ | ⟨z, ex, hz, el⟩
  · subst ex
    exact .inl ⟨p, l, e, h, q⟩
  · subst ex el
    exact .inr ⟨z, e, hz, q⟩
/-- a ** b for written numbers -/
abbrev CPowR (i j : Int) : Prop := ¬ i = 0 ∧ ¬ i = 1 ∧ ¬ i = -1 ∧ 0 < j ∧ Builtin.Int.intTooBig (((Builtin.Int.intBits i : Nat) : Int) * j) = false
theorem op_powR : OpR X (binaryOp .Pow) (rI CPowR fun i j => .int (i ^ j.toNat)) := opI fun i j t u s Q E c q =>
  PySem.AutoIntOps.pow_4 (by have := c.2.2.2.1; omega) (by have := c.2.2.2.1; simp; omega) (by have h1 := c.1; have h2 := c.2.1; simp [h1, h2]) (by have := c.2.2.1; simpa using this) (by rw [c.2.2.2.2]; decide) q
end
end Fs
namespace Fs
open PySem PySem.Spec PyProof.Rows L2
section
variable {P : Program} {w : World} {K : PySem.W.Frag} {mg : Str → Option Value} {base : Heap}
theorem seqIndex_of {r : Int} {n : Nat} (h0 : 0 ≤ r) (h1 : r < (n : Int)) : seqIndex? r n = some r.toNat := by
  unfold seqIndex?
  have h2 : ¬ r < 0 := by omega
  simp [h2, h0, h1]
theorem erase_perm {α : Type} : ∀ (l : List α) (i : Nat) (h : i < l.length), (l[i] :: l.eraseIdx i).Perm l
  | x :: l, 0, _ => List.Perm.refl _
  | x :: l, i + 1, h => by
    have h' : i < l.length := Nat.lt_of_succ_lt_succ h
    show (l[i] :: x :: l.eraseIdx i).Perm (x :: l)
    exact (List.Perm.swap _ _ _).trans (List.Perm.cons x (erase_perm l i h'))
/-- one of the items -/
def spChoose (K : PySem.W.Frag) : Sp := fun vs H Q _ => ∃ (a : Addr) (x : V) (l : List V), vs = [.ref a, x] ∧ Pot H a ∧ Of3 K (hid a H) x l ∧ l ≠ [] ∧ l.length ≤ 100000 ∧ ∀ (v : V) (H' : Hp), v ∈ l → Stp a H H' → Q v H'
abbrev s_choose : Stmt := top 26
theorem sc_choose : FnScope ["pot", "items"] ["pot", "items"] (defScope s_choose) := ⟨rfl, rfl, rfl, by decide +kernel, rfl, by decide +kernel, by decide +kernel⟩
theorem cal_choose (T : Bs mg) (D : Df K mg "_law_choose" s_choose ["pot", "items"]) (C_dip : Cal P w K mg base 1 "_law_dip" spDip) : Cal P w K mg base 2 "_law_choose" (spChoose K) := by
  refine D.cal sc_choose (fun vs H Q E h => ?_) (fun f cdv A outer s H vs Q E hr h => ?_)
  · obtain ⟨a, x, l, rfl, _⟩ := h
    rfl
  · obtain ⟨a, x, l, rfl, hp, h3, hne, hl, k⟩ := h
    refine ⟨_, pss_one (ps_ret (pe_ix ix_3 (pv 1) (pc C_dip hr (pa_cons (pv 0) (pa_cons (pb call_len3 T.z_len (pa_cons (pv 1) pa_nil)) pa_nil))) (fun _ _ => rfl))), ?_⟩
    have hpos : 0 < l.length := List.length_pos_iff.mpr hne
    refine ⟨_, rfl, _, rfl, _, rfl, x, l, rfl, h3.same (hid_le a H), a, (l.length : Int), rfl, hp, by omega, by omega, fun r H' r0 r1 st => ?_⟩
    have hi : r.toNat < l.length := by omega
    exact ⟨l, r, l[r.toNat], rfl, (h3.same st.same).same (hid_le a H'), r0, by simp [hi], k _ _ (List.getElem_mem hi) st⟩
/-- the items in any order, as a new list -/
def spShuf (K : PySem.W.Frag) : Sp := fun vs H Q _ => ∃ (a : Addr) (x : V) (l : List V), vs = [.ref a, x] ∧ Pot H a ∧ Of3 K (hid a H) x l ∧ l.length ≤ 100000 ∧
  ∀ (p : Addr) (l' : List V) (H' : Hp), l'.Perm l → H p = none → H' p = some (.lst l') → Stp a H H' → Q (.ref p) H'
abbrev s_shuffled : Stmt := top 27
theorem sc_shuffled : FnScope ["pot", "items", "left", "turn"] ["pot", "items"] (defScope s_shuffled) := ⟨rfl, rfl, rfl, by decide +kernel, rfl, by decide +kernel, by decide +kernel⟩
theorem cal_shuffled (T : Bs mg) (D : Df K mg "_law_shuffled" s_shuffled ["pot", "items"]) (C_dip : Cal P w K mg base 1 "_law_dip" spDip) : Cal P w K mg base 2 "_law_shuffled" (spShuf K) := by
  refine D.cal sc_shuffled (fun vs H Q E h => ?_) (fun f cdv A outer s H vs Q E hr h => ?_)
  · obtain ⟨a, x, l, rfl, _⟩ := h
    rfl
  · obtain ⟨a, x, l, rfl, hp, h3, hl, k⟩ := h
    refine ⟨_, pss_cons (ps_set (i := 2) sc_shuffled.nd rfl (.inr rfl) (pt (call_list3 rfl) T.z_list (pa_cons (pv 1) pa_nil)))
      (pss_one (ps_ret (pe_lc (own := [("turn", 3)]) (te := (tBM K "list" rPopAt (tVar 2) (tCons (tCallS spDip (fun _ => E0) (tCons (tVar 0) (tCons (tCB (rLen3 K) (tCons (tVar 2) tNil)) tNil))) tNil))) rfl sc_shuffled.nd (pi_range1 (by rfl) T.z_range (pa_cons (pb call_len3 T.z_len (pa_cons (pv 1) pa_nil)) pa_nil)) (blkOk_by (N := ["pot", "items", "left", "turn"]) (sc := defScope s_shuffled) (by decide +kernel)) (fun _ _ _ _ _ => (pg_name (i := 3) sc_shuffled.nd rfl (Or.inl rfl))) (fun _ _ _ _ _ => pts_nil) (fun _ _ _ _ _ => (pe_bm PySem.F.plainAttrs_list PySem.F.slot_list_pop PySem.F.type_list_pop mt_popAt (pv 2) (pa_cons (pc C_dip hr (pa_cons (pv 0) (pa_cons (pb call_len3 T.z_len (pa_cons (pv 2) pa_nil)) pa_nil))) pa_nil)))))), ?_⟩
    refine ⟨_, rfl, x, l, rfl, h3.same (hid_le a H), fun q hq => ?_⟩
    have st1 : Stp a H (upd H q (.lst l)) := (Stp.refl hp).new hq
    refine ⟨_, rfl, x, l, rfl, (h3.same st1.same).same (hid_le a _), _, rfl, by omega, by omega, fun D hD => ?_⟩
    have hqa : q ≠ a := hp.ne hq
    have hD0 : H D = none := st1.free hD (st1.pot.ne hD)
    have hDa : D ≠ a := st1.pot.ne hD
    have hDq : D ≠ q := fun e => by rw [e, upd_same] at hD; cases hD
    refine lc_range (fun i H1 => ∃ acc left : List V, Stp a H H1 ∧ H1 q = some (.lst left) ∧ H1 D = some (.lst acc) ∧ acc.length = i ∧ (acc ++ left).Perm l) ?_ ?_ ?_
    · exact ⟨[], l, st1.new hD, by rw [upd_ne hDq.symm, upd_same], upd_same, rfl, List.Perm.refl _⟩
    · rintro i H1 hi ⟨acc, left, st, hleft, hacc, hlen, perm⟩
      have hll : acc.length + left.length = l.length := by rw [← perm.length_eq, List.length_append]
      have hi : i < l.length := by simpa using hi
      refine ⟨rfl, _, rfl, .inl ⟨rfl, _, SqL.of hleft⟩, _, rfl, _, rfl, _, left, rfl, Of3.lst hleft, a, (left.length : Int), rfl, st.pot, by omega, by omega, fun r H2 r0 r1 st2 => ?_⟩
      have hr' : r.toNat < left.length := by omega
      have hleft2 := st2.get hleft hqa
      have hacc2 := st2.get hacc hDa
      refine ⟨q, left, r, r.toNat, left[r.toNat], rfl, rfl, hleft2, by omega, by omega, ?_, by simp [hr'], acc, ?_, ?_, acc ++ [left[r.toNat]], left.eraseIdx r.toNat, ?_, ?_, upd_same, ?_, ?_⟩
      · exact seqIndex_of r0 r1
      · rw [upd_ne hDq]; exact hacc2
      · have : sizeLine = 16777216 := sizeLine_eq
        omega
      · exact ((st.trans st2).mut hq hqa).mut hD0 hDa
      · rw [upd_ne hDq.symm, upd_same]
      · rw [List.length_append, hlen]; rfl
      · rw [List.append_assoc]
        exact (List.Perm.append_left acc (erase_perm left r.toNat hr')).trans perm
    · rintro H1 ⟨acc, left, st, hleft, hacc, hlen, perm⟩
      have hll : acc.length + left.length = l.length := by rw [← perm.length_eq, List.length_append]
      have h0 : left = [] := List.eq_nil_of_length_eq_zero (by simp at hlen; omega)
      subst h0
      rw [List.append_nil] at perm
      exact k _ _ _ perm hD0 hacc st
end
end Fs
namespace Fs
open PySem PySem.Spec PyProof.Rows L2

/-! ### letters, names, signs -/
def lowL (l : List Nat) : Bool := l.all fun c => decide (97 ≤ c) && decide (c ≤ 122)
def ascL : List Nat → Bool
  | [] => true
  | [_] => true
  | a :: b :: r => decide (a < b) && ascL (b :: r)
def nameL (l : List Nat) : Bool := decide (1 ≤ l.length) && decide (l.length ≤ 8) && lowL l && !decide (l = [101, 110, 100])
def signsL (l : List Nat) : Bool := decide (1 ≤ l.length) && decide (l.length ≤ 4) && lowL l && ascL l
abbrev cps (x : Str) : List Nat := x.cps.toList
theorem cps_S (l : List Nat) : cps (SX.S l) = l := rfl
theorem len_cps (x : Str) : x.length = (cps x).length := (Array.length_toList ..).symm
theorem cps_inj {x y : Str} (h : cps x = cps y) : x = y := by
  rw [← SX.S_tl x, ← SX.S_tl y]
  exact congrArg SX.S h
theorem joinL_nil : ∀ ls : List (List Nat), TL.joinL [] ls = ls.flatten
  | [] => rfl
  | [l] => by simp [TL.joinL]
  | l :: m :: r => by
    show l ++ ([] ++ TL.joinL [] (m :: r)) = _
    rw [joinL_nil (m :: r)]
    simp
theorem cps_join (ys : List Str) : cps (Txt.join "" ys) = (ys.map cps).flatten := by
  rw [TL.join_eq]
  exact (TL.tl_join "" ys).trans (joinL_nil _)
/-- one-letter texts -/
def onesL (ys : List Str) : Prop := ∀ y ∈ ys, ∃ c, cps y = [c] ∧ 97 ≤ c ∧ c ≤ 122
theorem ones_flat : ∀ {ys : List Str}, onesL ys → ((ys.map cps).flatten).length = ys.length ∧ lowL (ys.map cps).flatten = true
  | [], _ => ⟨rfl, rfl⟩
  | y :: ys, h => by
    obtain ⟨c, e, h1, h2⟩ := h y (List.mem_cons_self ..)
    obtain ⟨i1, i2⟩ := ones_flat (ys := ys) fun z hz => h z (List.mem_cons_of_mem _ hz)
    rw [List.map_cons, List.flatten_cons, e]
    refine ⟨by rw [List.length_append, i1]; simp; omega, ?_⟩
    show lowL (c :: _) = true
    unfold lowL at i2 ⊢
    show ((decide (97 ≤ c) && decide (c ≤ 122)) && ((ys.map cps).flatten.all fun c => decide (97 ≤ c) && decide (c ≤ 122))) = true
    rw [i2, decide_eq_true h1, decide_eq_true h2]
    rfl
theorem ones_len {ys : List Str} (h : onesL ys) : (ys.map (·.length)).sum = ys.length := by
  induction ys with
  | nil => rfl
  | cons y ys ih =>
    obtain ⟨c, e, _⟩ := h y (List.mem_cons_self ..)
    rw [List.map_cons, List.sum_cons, ih fun z hz => h z (List.mem_cons_of_mem _ hz), len_cps, e]
    simp; omega
theorem inV_str (x : Str) : ∀ xs : List Str, inV (.str x) (xs.map V.str) = decide (x ∈ xs)
  | [] => rfl
  | y :: xs => by
    show ((y == x) || inV (.str x) (xs.map V.str)) = _
    rw [inV_str x xs]
    by_cases e : y = x
    · subst e; simp
    · have e' : ¬ x = y := fun q => e q.symm
      have hb : (y == x) = false := beq_eq_false_iff_ne.mpr e
      rw [hb]; simp [e']
theorem all_flat (xs : List Str) : (xs.map V.str).all flatV = true := by
  induction xs with
  | nil => rfl
  | cons x xs ih => rw [List.map_cons, List.all_cons, ih]; rfl
/-- a new list's items may be drawn -/
theorem Of3.newL {K : PySem.W.Frag} {H : Hp} {a p : Addr} {l : List V} (hp : p ≠ a) : Of3 K (hid a (upd H p (.lst l))) (.ref p) l := .lst (by rw [hid_ne hp, upd_same])
theorem pigeon {α : Type} [DecidableEq α] : ∀ {l m : List α}, l.Nodup → (∀ x ∈ l, x ∈ m) → l.length ≤ m.length
  | [], _, _, _ => Nat.zero_le _
  | x :: l, m, nd, h => by
    have nd' := List.nodup_cons.mp nd
    have hx := h x (List.mem_cons_self ..)
    have := pigeon (l := l) (m := m.erase x) nd'.2 fun y hy => (List.mem_erase_of_ne (fun (e : y = x) => nd'.1 (by rw [← e]; exact hy))).mpr (h y (List.mem_cons_of_mem _ hy))
    rw [List.length_erase_of_mem hx] at this
    have : 0 < m.length := List.length_pos_of_mem hx
    simp only [List.length_cons]; omega

section
variable {P : Program} {w : World} {K : PySem.W.Frag} {mg : Str → Option Value} {base : Heap}
/-- a drawn name -/
def spName : Sp := fun vs H Q _ => ∃ a : Addr, vs = [.ref a] ∧ Pot H a ∧ ∀ (x : Str) (H' : Hp), nameL (cps x) = true → Stp a H H' → Q (.str x) H'
abbrev s_name : Stmt := top 28
theorem sc_name : FnScope ["pot", "letters", "word", "found", "turn"] ["pot"] (defScope s_name) := ⟨rfl, rfl, rfl, by decide +kernel, rfl, by decide +kernel, by decide +kernel⟩
theorem cal_name (T : Bs mg) (D : Df K mg "_law_name" s_name ["pot"]) (C_dip : Cal P w K mg base 1 "_law_dip" spDip) (C_choose : Cal P w K mg base 2 "_law_choose" (spChoose K)) : Cal P w K mg base 3 "_law_name" spName := by
  refine D.cal sc_name (fun vs H Q E h => ?_) (fun f cdv A outer s H vs Q E hr h => ?_)
  · obtain ⟨a, rfl, _⟩ := h
    rfl
  · obtain ⟨a, rfl, hp, k⟩ := h
    refine ⟨_, pss_cons (ps_set (i := 1) sc_name.nd rfl (.inr rfl) (pc C_choose hr (pa_cons (pv 0) (pa_cons (pe_lst (pa_cons pe_str (pa_cons pe_str (pa_cons pe_str (pa_cons pe_str pa_nil))))) pa_nil))))
      (pss_cons (ps_set (i := 2) sc_name.nd rfl (.inl rfl) (pe_join pe_str (pe_lc (own := [("turn", 4)]) (te := (tCallS (spChoose K) (fun _ => E0) (tCons (tVar 0) (tCons (tVar 1) tNil)))) rfl sc_name.nd (pi_range1 (by rfl) T.z_range (pa_cons (pe_op op_add pe_int (pc C_dip hr (pa_cons (pv 0) (pa_cons (pc C_choose hr (pa_cons (pv 0) (pa_cons (pe_lst (pa_cons pe_int (pa_cons pe_int (pa_cons pe_int pa_nil)))) pa_nil))) pa_nil)))) pa_nil)) (blkOk_by (N := ["pot", "letters", "word", "found", "turn"]) (sc := defScope s_name) (by decide +kernel)) (fun _ _ _ _ _ => (pg_name (i := 4) sc_name.nd rfl (Or.inl rfl))) (fun _ _ _ _ _ => pts_nil) (fun _ _ _ _ _ => (pc C_choose hr (pa_cons (pv 0) (pa_cons (pv 1) pa_nil)))))))
      (pss_cons (ps_set (i := 3) sc_name.nd rfl (.inl rfl) (pc C_choose hr (pa_cons (pv 0) (pa_cons (pe_lst (pa_cons (pv 2) (pa_cons (pv 2) (pa_cons (pv 2) (pa_cons pe_str (pa_cons pe_str (pa_cons pe_str (pa_cons pe_str (pa_cons pe_str (pa_cons pe_str (pa_cons pe_str (pa_cons pe_str (pa_cons pe_str pa_nil))))))))))))) pa_nil))))
      (pss_one (ps_ret (pe_ifExp (pt_cmpR op_ne (pv 3) pe_str (nomark _)) (pv 3) pe_str))))), ?_⟩
    refine ⟨_, rfl, by decide, fun p1 hp1 => ?_⟩
    have np1 := hp.ne hp1
    refine ⟨a, _, _, rfl, hp.upd np1, Of3.newL np1, by simp, by simp, fun v1 H1 hv1 st1 => ?_⟩
    obtain ⟨z, rfl, hz1, hz2, hz3⟩ : ∃ z : Str, v1 = .str z ∧ cps z ≠ [] ∧ z.length ≤ 100000 ∧ lowL (cps z) = true := by
      simp only [List.mem_cons, List.not_mem_nil, or_false] at hv1
      rcases hv1 with rfl | rfl | rfl | rfl <;> exact ⟨_, rfl, by decide +kernel, by decide +kernel, by decide +kernel⟩
    have s1 : Stp a H H1 := ((Stp.refl hp).new hp1).trans st1
    refine ⟨⟨_, rfl⟩, _, rfl, _, rfl, by decide, fun p2 hp2 => ?_⟩
    have np2 := s1.pot.ne hp2
    refine ⟨a, _, _, rfl, s1.pot.upd np2, Of3.newL np2, by simp, by simp, fun v2 H2 hv2 st2 => ?_⟩
    obtain ⟨n, rfl, hn0, hn1⟩ : ∃ n : Int, v2 = .int n ∧ 0 < n ∧ n ≤ 8 := by
      simp only [List.mem_cons, List.not_mem_nil, or_false] at hv2
      rcases hv2 with rfl | rfl | rfl <;> exact ⟨_, rfl, by decide, by decide⟩
    have s2 := (s1.new hp2).trans st2
    refine ⟨a, n, rfl, s2.pot, hn0, by omega, fun r H3 r0 r1 st3 => ?_⟩
    have s3 := s2.trans st3
    refine ⟨_, _, rfl, rfl, _, rfl, by omega, by omega, fun D hD => ?_⟩
    have hDa : D ≠ a := s3.pot.ne hD
    have hD0 : H D = none := s3.free hD hDa
    refine lc_range (fun i H4 => ∃ ys : List Str, Stp a H H4 ∧ H4 D = some (.lst (ys.map V.str)) ∧ ys.length = i ∧ onesL ys) ?_ ?_ ?_
    · exact ⟨[], s3.new hD, upd_same, rfl, fun y hy => nomatch hy⟩
    · rintro i H4 hi ⟨ys, st, hacc, hlen, ho⟩
      refine ⟨rfl, _, rfl, _, rfl, a, _, _, rfl, st.pot, Of3.str hz2, fun e => hz1 (List.map_eq_nil_iff.mp e), by rw [List.length_map, ← len_cps]; exact hz2, fun v H5 hv st5 => ?_⟩
      obtain ⟨c, hc, rfl⟩ := List.mem_map.mp hv
      have hacc5 := st5.get hacc hDa
      refine ⟨_, hacc5, by rw [List.length_map, sizeLine_eq]; omega, ys ++ [⟨#[c]⟩], (st.trans st5).mut hD0 hDa, by rw [upd_same, List.map_append]; rfl, by simp [hlen], ?_⟩
      intro y hy
      rcases List.mem_append.mp hy with h | h
      · exact ho y h
      · rw [List.mem_singleton.mp h]
        have := List.all_eq_true.mp hz3 c hc
        simp only [Bool.and_eq_true, decide_eq_true_eq] at this
        exact ⟨c, rfl, this⟩
    · rintro H4 ⟨ys, st, hacc, hlen, ho⟩
      obtain ⟨f1, f2⟩ := ones_flat ho
      have hn : ys.length = (1 + r).toNat := hlen
      refine ⟨_, _, ys, rfl, rfl, .inl (SqL.of hacc), (by rw [ones_len ho]; show ys.length + ys.length * 0 ≤ _; omega), ?_⟩
      have e := cps_join ys
      generalize Txt.join "" ys = word at e
      have hw1 : nameL (cps word) = true ∨ cps word = [101, 110, 100] := by
        by_cases c : cps word = [101, 110, 100]
        · exact .inr c
        · refine .inl ?_
          unfold nameL
          rw [e] at c ⊢
          simp only [Bool.and_eq_true, decide_eq_true_eq, Bool.not_eq_true', decide_eq_false_iff_not]
          exact ⟨⟨⟨by omega, by omega⟩, f2⟩, c⟩
      refine ⟨_, rfl, _, rfl, _, rfl, _, rfl, (by show 12 ≤ sizeLine; decide), fun p3 hp3 => ?_⟩
      have np3 := st.pot.ne hp3
      refine ⟨a, _, _, rfl, st.pot.upd np3, Of3.newL np3, by simp, by simp, fun v3 H5 hv3 st5 => ?_⟩
      have s5 := (st.new hp3).trans st5
      obtain ⟨x, rfl, hx⟩ : ∃ x : Str, v3 = .str x ∧ (nameL (cps x) = true ∨ cps x = [101, 110, 100]) := by
        simp only [List.mem_cons, List.not_mem_nil, or_false] at hv3
        rcases hv3 with rfl | rfl | rfl | rfl | rfl | rfl | rfl | rfl | rfl | rfl | rfl | rfl
        · exact ⟨_, rfl, hw1⟩
        · exact ⟨_, rfl, hw1⟩
        · exact ⟨_, rfl, hw1⟩
        all_goals exact ⟨_, rfl, .inl (by decide +kernel)⟩
      refine ⟨_, rfl, rfl, _, rfl, ?_⟩
      by_cases c : x = "end"
      · rw [decide_eq_true (show V.str x = V.str "end" by rw [c])]
        refine iteF ?_
        exact k _ _ (by decide +kernel) s5
      · rw [decide_eq_false (show ¬ V.str x = V.str "end" from fun q => c (by injection q))]
        refine iteT ?_
        refine ⟨_, rfl, k _ _ ?_ s5⟩
        rcases hx with hx | hx
        · exact hx
        · exact (c (cps_inj (hx.trans (by decide +kernel)))).elim
/-- a name that is none of at most five -/
def spFree (K : PySem.W.Frag) : Sp := fun vs H Q _ => ∃ (p : Addr) (xs : List Str), vs = [.ref p] ∧ SqL K H p (xs.map V.str) ∧ xs.length ≤ 5 ∧ ∀ (x : Str) (H' : Hp), nameL (cps x) = true → x ∉ xs → Same H H' → Q (.str x) H'
abbrev s_free : Stmt := top 29
theorem sc_free : FnScope ["names", "name"] ["names"] (defScope s_free) := ⟨rfl, rfl, rfl, by decide +kernel, rfl, by decide +kernel, by decide +kernel⟩
def six : List Str := ["qa", "qb", "qc", "qd", "qe", "qf"]
theorem same_upd {H H1 : Hp} {p : Addr} {o : HO} (e : Same H H1) (hp : H1 p = none) : Same H (upd H1 p o) := fun b u h => by
  have h1 := e b u h
  rw [upd_ne (ne_of_none h1 hp)]; exact h1
theorem same_mut {H H1 : Hp} {p : Addr} {o : HO} (e : Same H H1) (hp : H p = none) : Same H (upd H1 p o) := fun b u h => by
  rw [upd_ne (ne_of_none h hp)]; exact e b u h
theorem cal_free (D : Df K mg "_law_free" s_free ["names"]) : Cal P w K mg base 1 "_law_free" (spFree K) := by
  refine D.cal sc_free (fun vs H Q E h => ?_) (fun f cdv A outer s H vs Q E hr h => ?_)
  · obtain ⟨p, xs, rfl, _⟩ := h
    rfl
  · obtain ⟨p, xs, rfl, hp, hl, k⟩ := h
    refine ⟨_, pss_one (ps_ret (pe_ix ix_list (pe_lc (own := [("name", 1)]) (te := (tVar 1)) (tt := (tTest (tOp (rIn K true) (tVar 1) (tVar 0)))) rfl sc_free.nd (pi_tup (pe_tup (pa_cons pe_str (pa_cons pe_str (pa_cons pe_str (pa_cons pe_str (pa_cons pe_str (pa_cons pe_str pa_nil)))))))) (blkOk_by (N := ["names", "name"]) (sc := defScope s_free) (by decide +kernel)) (fun _ _ _ _ _ => (pg_name (i := 1) sc_free.nd rfl (Or.inl rfl))) (fun _ _ _ _ _ => (pts_one (pt_cmpR op_notIn_seq (pv 1) (pv 0) (by rfl)))) (fun _ _ _ _ _ => (pv 1))) pe_int (fun _ _ => rfl))), ?_⟩
    refine ⟨by decide, fun t ht => ⟨t, rfl, ⟨_, SqT.of upd_same⟩, fun D hD => ?_⟩⟩
    have e1 : Same H (upd H t (.tup (six.map V.str))) := same_upd (Same.refl H) ht
    have hD0 : H D = none := e1.free hD
    have hDt : D ≠ t := fun e => by rw [e, upd_same] at hD; cases hD
    refine lc_tup (K := K) (a := t) (xs := six.map V.str) (fun i H1 => Same H H1 ∧ H1 t = some (.tup (six.map V.str)) ∧ H1 D = some (.lst (((six.take i).filter fun y => decide (y ∉ xs)).map V.str))) ?_ ?_ ?_ ?_
    · exact ⟨same_upd e1 hD, by rw [upd_ne hDt.symm]; exact upd_same, upd_same⟩
    · rintro i H1 _ ⟨_, h1, _⟩
      exact SqT.of h1
    · rintro i x H1 hx ⟨h1, h2, h3⟩
      rw [List.getElem?_map] at hx
      obtain ⟨y, hy, rfl⟩ := Option.map_eq_some_iff.mp hx
      refine ⟨rfl, _, rfl, _, rfl, p, _, rfl, .inl (h1.seq hp), rfl, all_flat xs, _, rfl, ?_⟩
      have et : six.take (i + 1) = six.take i ++ [y] := by rw [List.take_add_one, hy]; rfl
      show (if (!inV (V.str y) (xs.map V.str)) = true then _ else _)
      rw [inV_str]
      by_cases c : y ∈ xs
      · rw [decide_eq_true c]
        refine iteF ?_
        refine ⟨h1, h2, ?_⟩
        rw [et, List.filter_append, h3]
        simp [c]
      · rw [decide_eq_false c]
        refine iteT ?_
        refine ⟨_, rfl, _, h3, ?_, same_mut h1 hD0, by rw [upd_ne hDt.symm]; exact h2, ?_⟩
        · have := (List.length_filter_le (fun y => decide (y ∉ xs)) (six.take i))
          have h6 : (six.take i).length ≤ 6 := List.length_take_le' i six
          rw [List.length_map, sizeLine_eq]; omega
        · rw [upd_same, et, List.filter_append, List.map_append]
          simp [c]
    · rintro H1 ⟨h1, h2, h3⟩
      have hne : ∃ y r, (six.filter fun y => decide (y ∉ xs)) = y :: r := by
        cases q : six.filter fun y => decide (y ∉ xs) with
        | cons y r => exact ⟨y, r, rfl⟩
        | nil =>
          have hall : ∀ y ∈ six, y ∈ xs := fun y hy => by
            have := List.filter_eq_nil_iff.mp q y hy
            simpa using this
          have := pigeon (by decide +kernel : six.Nodup) hall
          have h7 : six.length = 6 := rfl
          omega
      obtain ⟨y, r, hy⟩ := hne
      have hm : y ∈ six ∧ y ∉ xs := by
        have : y ∈ six.filter fun y => decide (y ∉ xs) := by rw [hy]; exact List.mem_cons_self ..
        rw [List.mem_filter] at this
        exact ⟨this.1, by simpa using this.2⟩
      have h3' : H1 D = some (.lst ((y :: r).map V.str)) := by rw [← hy]; exact h3
      refine ⟨D, _, 0, .str y, rfl, rfl, SqL.of h3', atI_nat (j := 0) rfl, k y H1 ?_ hm.2 h1⟩
      have : ∀ z ∈ six, nameL (cps z) = true := by decide +kernel
      exact this y hm.1
end
end Fs
namespace Fs
open PySem PySem.Spec PyProof.Rows L2
section
variable {P : Program} {w : World} {K : PySem.W.Frag} {mg : Str → Option Value} {base : Heap}
theorem Stp.of_same {a : Addr} {H H' : Hp} (h : Pot H a) (e : Same H H') : Stp a H H' := by
  obtain ⟨p0, p1, p2, h1, r⟩ := h.ex
  refine ⟨⟨p0, p1, p2, e _ _ h1, r⟩, fun b o q => ?_⟩
  obtain ⟨hb, q1⟩ := hid_some q
  rw [hid_ne hb]; exact e _ _ q1
/-- so many different names -/
def spNames : Sp := fun vs H Q _ => ∃ (a : Addr) (n : Int), vs = [.ref a, .int n] ∧ Pot H a ∧ 0 ≤ n ∧ n ≤ 6 ∧
  ∀ (p : Addr) (xs : List Str) (H' : Hp), (xs.length : Int) = n → xs.Nodup → (∀ x ∈ xs, nameL (cps x) = true) → H p = none → H' p = some (.lst (xs.map V.str)) → Stp a H H' → Q (.ref p) H'
abbrev s_names : Stmt := top 30
theorem sc_names : FnScope ["pot", "many", "found", "turn", "name"] ["pot", "many"] (defScope s_names) := ⟨rfl, rfl, rfl, by decide +kernel, rfl, by decide +kernel, by decide +kernel⟩
theorem cal_names (T : Bs mg) (D : Df K mg "_law_names" s_names ["pot", "many"]) (C_name : Cal P w K mg base 3 "_law_name" spName) (C_free : Cal P w K mg base 1 "_law_free" (spFree K)) : Cal P w K mg base 4 "_law_names" spNames := by
  refine D.cal sc_names (fun vs H Q E h => ?_) (fun f cdv A outer s H vs Q E hr h => ?_)
  · obtain ⟨a, n, rfl, _⟩ := h
    rfl
  · obtain ⟨a, n, rfl, hp, hn0, hn6, k⟩ := h
    refine ⟨_, pss_cons (ps_set (i := 2) sc_names.nd rfl (.inl rfl) (pe_lst pa_nil))
      (pss_cons (ps_for PassesOwn.never rfl (pi_range1 (by rfl) T.z_range (pa_cons (pv 1) pa_nil)) (pg_name (i := 3) sc_names.nd rfl (Or.inl rfl))
        (pss_cons (ps_set (i := 4) sc_names.nd rfl (.inl rfl) (pc C_name hr (pa_cons (pv 0) pa_nil)))
        (pss_one (ps_expr (pe_bm PySem.F.plainAttrs_list PySem.F.slot_list_append PySem.F.type_list_append mt_append (pv 2) (pa_cons (pe_ifExp (pt_cmpR op_notIn_seq (pv 4) (pv 2) (by rfl)) (pv 4) (pc C_free hr (pa_cons (pv 2) pa_nil))) pa_nil))))))
      (pss_one (ps_ret (pv 2)))), ?_⟩
    refine ⟨by decide, fun q hq => ?_⟩
    have hqa := hp.ne hq
    have s0 : Stp a H (upd H q (.lst [])) := (Stp.refl hp).new hq
    refine ⟨_, rfl, _, rfl, by omega, by omega, for_range (fun i σ H1 => ∃ (xs : List Str) (v1 v2 : Option V), σ = [some (.ref a), some (.int n), some (.ref q), v1, v2] ∧ Stp a H H1 ∧ H1 q = some (.lst (xs.map V.str)) ∧ xs.length = i ∧ xs.Nodup ∧ ∀ x ∈ xs, nameL (cps x) = true) ?_ ?_ ?_⟩
    · exact ⟨[], none, none, rfl, s0, upd_same, rfl, List.nodup_nil, fun _ h => nomatch h⟩
    · rintro i σ H1 hi ⟨xs, v1, v2, rfl, st, hl, hlen, nd, good⟩
      have hi6 : i < 6 := by omega
      refine ⟨_, rfl, a, rfl, st.pot, fun x H2 hx st2 => ?_⟩
      have s2 := st.trans st2
      have hl2 := st2.get hl hqa
      have fin : ∀ (y : Str) (H3 : Hp), nameL (cps y) = true → y ∉ xs → Stp a H H3 → H3 q = some (.lst (xs.map V.str)) → ∃ (ys : List Str) (v1 v2 : Option V), [some (V.ref a), some (.int n), some (.ref q), some (.int (0 + (i : Int))), some (.str x)] = [some (.ref a), some (.int n), some (.ref q), v1, v2] ∧ Stp a H (upd H3 q (.lst (xs.map V.str ++ [.str y]))) ∧ (upd H3 q (.lst (xs.map V.str ++ [.str y]))) q = some (.lst (ys.map V.str)) ∧ ys.length = i + 1 ∧ ys.Nodup ∧ ∀ x ∈ ys, nameL (cps x) = true := by
        intro y H3 hy hny s3 hl3
        refine ⟨xs ++ [y], _, _, rfl, s3.mut hq hqa, by rw [upd_same, List.map_append]; rfl, by simp [hlen], ?_, ?_⟩
        · rw [List.nodup_append]
          refine ⟨nd, by simp, fun u hu v hv e => ?_⟩
          rw [List.mem_singleton.mp hv] at e
          exact hny (e ▸ hu)
        · intro z hz
          rcases List.mem_append.mp hz with h | h
          · exact good z h
          · rw [List.mem_singleton.mp h]; exact hy
      refine ⟨_, rfl, .inl ⟨rfl, _, SqL.of hl2⟩, _, rfl, _, rfl, q, _, rfl, .inl (SqL.of hl2), rfl, all_flat xs, _, rfl, ?_⟩
      show (if (!inV (V.str x) (xs.map V.str)) = true then _ else _)
      rw [inV_str]
      have hz : (xs.map V.str).length < sizeLine := by rw [List.length_map, sizeLine_eq]; omega
      by_cases c : x ∈ xs
      · rw [decide_eq_true c]
        refine iteF ?_
        refine ⟨_, rfl, q, xs, rfl, SqL.of hl2, by omega, fun y H3 hy hny e3 => ?_⟩
        have hl3 := e3 _ _ hl2
        exact ⟨q, _, _, rfl, rfl, hl3, hz, fin y H3 hy hny (s2.trans (Stp.of_same s2.pot e3)) hl3⟩
      · rw [decide_eq_false c]
        refine iteT ?_
        exact ⟨_, rfl, q, _, _, rfl, rfl, hl2, hz, fin x H2 hx c s2 hl2⟩
    · rintro σ H1 ⟨xs, v1, v2, rfl, st, hl, hlen, nd, good⟩
      exact ⟨_, rfl, k q xs H1 (by omega) nd good hq hl st⟩
end
end Fs
namespace Fs
open PySem PySem.Spec PyProof.Rows L2
def one1 (c : Nat) : Str := ⟨#[c]⟩
theorem lt_one (c d : Nat) : ltCps (cps (one1 c)) (cps (one1 d)) = decide (c < d) := by
  show ltCps [c] [d] = _
  unfold ltCps
  by_cases h : c < d
  · simp [h]
  · simp [h, ltCps]
theorem asc_of_sorted : ∀ (cs : List Nat) (c : Nat), risingS (one1 c) (cs.map one1) = true → (c :: cs).Nodup → ascL (c :: cs) = true
  | [], _, _, _ => rfl
  | d :: cs, c, h, nd => by
    have h' : (!ltCps (cps (one1 d)) (cps (one1 c)) && risingS (one1 d) (cs.map one1)) = true := h
    rw [lt_one, Bool.and_eq_true] at h'
    have nd' := List.nodup_cons.mp nd
    have ne : c ≠ d := fun e => nd'.1 (e ▸ List.mem_cons_self ..)
    have h1 : ¬ d < c := by simpa using h'.1
    show (decide (c < d) && ascL (d :: cs)) = true
    rw [asc_of_sorted cs d h'.2 nd'.2, decide_eq_true (by omega : c < d)]
    rfl
theorem asc_sorted {cs : List Nat} (h : PyProof.Rows.sortedS (cs.map one1) = true) (nd : cs.Nodup) : ascL cs = true := by
  cases cs with
  | nil => rfl
  | cons c cs => exact asc_of_sorted cs c h nd
/-- texts among values -/
def unStr : V → Str
  | .str x => x
  | _ => ""
theorem perm_strs {l : List V} {xs : List Str} (h : l.Perm (xs.map V.str)) : ∃ ys : List Str, l = ys.map V.str ∧ ys.Perm xs := by
  refine ⟨l.map unStr, ?_, ?_⟩
  · rw [List.map_map]
    conv => lhs; rw [← List.map_id l]
    refine List.map_congr_left fun v hv => ?_
    obtain ⟨x, _, rfl⟩ := List.mem_map.mp (h.mem_iff.mp hv)
    rfl
  · have := h.map unStr
    rw [List.map_map] at this
    have e : xs.map (unStr ∘ V.str) = xs := by
      conv => rhs; rw [← List.map_id xs]
      rfl
    rw [e] at this
    exact this
theorem perm_ones {ys : List Str} {cs : List Nat} (h : ys.Perm (cs.map one1)) : ∃ ds : List Nat, ys = ds.map one1 ∧ ds.Perm cs := by
  refine ⟨ys.map fun y => (cps y).headD 0, ?_, ?_⟩
  · rw [List.map_map]
    conv => lhs; rw [← List.map_id ys]
    refine List.map_congr_left fun v hv => ?_
    obtain ⟨c, _, rfl⟩ := List.mem_map.mp (h.mem_iff.mp hv)
    rfl
  · have := h.map fun y => (cps y).headD 0
    rw [List.map_map] at this
    have e : cs.map ((fun y => (cps y).headD 0) ∘ one1) = cs := by
      conv => rhs; rw [← List.map_id cs]
      rfl
    rw [e] at this
    exact this
theorem flat_ones : ∀ cs : List Nat, ((cs.map one1).map cps).flatten = cs
  | [] => rfl
  | c :: cs => by
    rw [List.map_cons, List.map_cons, List.flatten_cons, flat_ones cs]
    rfl
theorem len_ones (cs : List Nat) : ((cs.map one1).map (·.length)).sum = cs.length := by
  induction cs with
  | nil => rfl
  | cons c cs ih =>
    rw [List.map_cons, List.map_cons, List.sum_cons, ih, List.length_cons]
    show 1 + _ = _
    omega
theorem map_S1 (l : List Nat) : l.map S1 = (l.map one1).map V.str := by rw [List.map_map]; rfl
theorem cutV_to (xs : List V) (n : Int) (h : 0 ≤ n) : cutV xs none (some n) = xs.take n.toNat := by
  unfold cutV
  have e : n = ((n.toNat : Nat) : Int) := (Int.toNat_of_nonneg h).symm
  rw [e, HT.sIx_nat, HT.sIx_none, List.drop_zero, Nat.sub_zero]
  rw [show (((n.toNat : Nat) : Int)).toNat = n.toNat by omega]
  by_cases c : n.toNat ≤ xs.length
  · rw [Nat.min_eq_left c]
  · rw [Nat.min_eq_right (by omega), List.take_of_length_le (Nat.le_refl _), List.take_of_length_le (by omega)]
theorem cutV_from (xs : List V) (n : Int) (h : 0 ≤ n) : cutV xs (some n) none = xs.drop n.toNat := by
  unfold cutV
  have e : n = ((n.toNat : Nat) : Int) := (Int.toNat_of_nonneg h).symm
  rw [e, HT.sIx_nat, HT.sIx_none]
  rw [show (((n.toNat : Nat) : Int)).toNat = n.toNat by omega]
  by_cases c : n.toNat ≤ xs.length
  · rw [Nat.min_eq_left c, List.take_of_length_le (by rw [List.length_drop]; omega)]
  · rw [Nat.min_eq_right (by omega), List.drop_of_length_le (Nat.le_refl _), List.drop_of_length_le (by omega)]
    simp
section
variable {P : Program} {w : World} {K : PySem.W.Frag} {mg : Str → Option Value} {base : Heap}
/-- drawn signs -/
def spSigns : Sp := fun vs H Q _ => ∃ a : Addr, vs = [.ref a] ∧ Pot H a ∧ ∀ (x : Str) (H' : Hp), signsL (cps x) = true → Stp a H H' → Q (.str x) H'
abbrev s_signs : Stmt := top 31
theorem sc_signs : FnScope ["pot", "letters"] ["pot"] (defScope s_signs) := ⟨rfl, rfl, rfl, by decide +kernel, rfl, by decide +kernel, by decide +kernel⟩
theorem cal_signs (T : Bs mg) (D : Df K mg "_law_signs" s_signs ["pot"]) (C_dip : Cal P w K mg base 1 "_law_dip" spDip) (C_choose : Cal P w K mg base 2 "_law_choose" (spChoose K)) (C_shuffled : Cal P w K mg base 2 "_law_shuffled" (spShuf K)) : Cal P w K mg base 3 "_law_signs" spSigns := by
  refine D.cal sc_signs (fun vs H Q E h => ?_) (fun f cdv A outer s H vs Q E hr h => ?_)
  · obtain ⟨a, rfl, _⟩ := h
    rfl
  · obtain ⟨a, rfl, hp, k⟩ := h
    refine ⟨_, pss_cons (ps_set (i := 1) sc_signs.nd rfl (.inl rfl) (pc C_choose hr (pa_cons (pv 0) (pa_cons (pe_lst (pa_cons pe_str (pa_cons pe_str (pa_cons pe_str (pa_cons pe_str (pa_cons pe_str (pa_cons pe_str pa_nil))))))) pa_nil))))
      (pss_one (ps_ret (pe_join pe_str (pb cr_sortedS T.z_sorted (pa_cons (pe_slice sl_list (pc C_shuffled hr (pa_cons (pv 0) (pa_cons (pv 1) pa_nil))) po_none (po_some (pe_op op_add pe_int (pc C_dip hr (pa_cons (pv 0) (pa_cons pe_int pa_nil)))))) pa_nil))))), ?_⟩
    refine ⟨_, rfl, by decide, fun p1 hp1 => ?_⟩
    have np1 := hp.ne hp1
    refine ⟨a, _, _, rfl, hp.upd np1, Of3.newL np1, by simp, by simp, fun v1 H1 hv1 st1 => ?_⟩
    obtain ⟨z, rfl, hz1, hz2, hz3, hz4⟩ : ∃ z : Str, v1 = .str z ∧ 0 < (cps z).length ∧ z.length ≤ 26 ∧ lowL (cps z) = true ∧ (cps z).Nodup := by
      simp only [List.mem_cons, List.not_mem_nil, or_false] at hv1
      rcases hv1 with rfl | rfl | rfl | rfl | rfl | rfl <;> exact ⟨_, rfl, by decide +kernel, by decide +kernel, by decide +kernel, by decide +kernel⟩
    have s1 : Stp a H H1 := ((Stp.refl hp).new hp1).trans st1
    refine ⟨⟨_, rfl⟩, _, rfl, _, rfl, a, _, _, rfl, s1.pot, Of3.str (by omega), by rw [List.length_map, ← len_cps]; omega, fun q l' H2 perm hq hl st2 => ?_⟩
    have s2 := s1.trans st2
    refine ⟨_, rfl, a, 4, rfl, s2.pot, by decide, by decide, fun r H3 r0 r1 st3 => ?_⟩
    have s3 := s2.trans st3
    have hqa := s1.pot.ne hq
    have hl3 := st3.get hl hqa
    rw [map_S1] at perm
    obtain ⟨ys, rfl, py⟩ := perm_strs perm
    obtain ⟨ds, rfl, pd⟩ := perm_ones py
    refine ⟨_, _, rfl, rfl, _, rfl, q, _, rfl, SqL.of hl3, fun p4 hp4 => ?_⟩
    have s4 := s3.new (o := .lst (cutV ((ds.map one1).map V.str) none (some (1 + r)))) hp4
    have ecut : cutV ((ds.map one1).map V.str) none (some (1 + r)) = ((ds.take (1 + r).toNat).map one1).map V.str := by rw [cutV_to _ _ (by omega), List.map_take, List.map_take]
    have len_ds : ds.length = (cps z).length := pd.length_eq
    have hz2' : (cps z).length ≤ 26 := by rw [← len_cps]; exact hz2
    refine ⟨p4, (ds.take (1 + r).toNat).map one1, rfl, SqL.of (by rw [upd_same, ecut]), by rw [List.length_map, List.length_take]; omega, fun zs p5 pz srt hp5 => ?_⟩
    obtain ⟨es, rfl, pe⟩ := perm_ones pz
    refine ⟨_, _, es.map one1, rfl, rfl, .inl (SqL.of upd_same), by rw [len_ones]; have := pe.length_eq; rw [List.length_take] at this; show es.length + (es.map one1).length * 0 ≤ _; omega, ?_⟩
    refine k _ _ ?_ (s4.new hp5)
    rw [cps_join, flat_ones]
    have nd_ds : ds.Nodup := pd.nodup_iff.mpr hz4
    have nd_es : es.Nodup := pe.nodup_iff.mpr (nd_ds.sublist (List.take_sublist _ _))
    have low_es : lowL es = true := by
      refine List.all_eq_true.mpr fun c hc => ?_
      exact List.all_eq_true.mp hz3 c (pd.mem_iff.mp (List.mem_of_mem_take (pe.mem_iff.mp hc)))
    have elen : es.length = min (1 + r).toNat ds.length := by rw [pe.length_eq, List.length_take]
    unfold signsL
    simp only [Bool.and_eq_true, decide_eq_true_eq]
    exact ⟨⟨⟨by omega, by omega⟩, low_es⟩, asc_sorted srt nd_es⟩
end
end Fs
namespace Fs
open PySem PySem.Spec PyProof.Rows L2
/-! ### tuples never change -/
def Tle (H H' : Hp) : Prop := ∀ b xs, H b = some (.tup xs) → H' b = some (.tup xs)
theorem Tle.refl (H : Hp) : Tle H H := fun _ _ h => h
theorem Tle.trans {H H1 H2 : Hp} (x : Tle H H1) (y : Tle H1 H2) : Tle H H2 := fun b xs h => y b xs (x b xs h)
theorem Tle.new {H : Hp} {p : Addr} {o : HO} (hp : H p = none) : Tle H (upd H p o) := fun b xs h => by rw [upd_ne (ne_of_none h hp)]; exact h
theorem Tle.lst {H : Hp} {p : Addr} {ys : List V} {o : HO} (hp : H p = some (.lst ys)) : Tle H (upd H p o) := fun b xs h => by
  rw [upd_ne (ne_of h hp (by intro z; cases z))]; exact h
theorem Stp.tle {a : Addr} {H H' : Hp} (st : Stp a H H') (hp : Pot H a) : Tle H H' := fun b xs h => by
  obtain ⟨p0, p1, p2, e, _⟩ := hp.ex
  exact st.get h (ne_of h e (by intro z; cases z))
theorem Tle.of_same {H H' : Hp} (e : Same H H') : Tle H H' := fun b xs h => e b _ h
/-- a pair of texts; the sources or sinks of streams -/
def PairAt (H : Hp) (t : Addr) (p : Str × Str) : Prop := H t = some (.tup [.str p.1, .str p.2])
def PartsT (H : Hp) (t : Addr) (ps : List (Str × Str)) : Prop := ∃ as : List Addr, H t = some (.tup (as.map V.ref)) ∧ Paired (PairAt H) as ps
theorem pairs_le {H H' : Hp} (e : Tle H H') {as : List Addr} {ps : List (Str × Str)} (h : Paired (PairAt H) as ps) : Paired (PairAt H') as ps := L2.Paired.mapP h fun _ _ q => e _ _ q
theorem PartsT.le {H H' : Hp} {t : Addr} {ps : List (Str × Str)} (e : Tle H H') (h : PartsT H t ps) : PartsT H' t ps := by
  obtain ⟨as, h1, h2⟩ := h
  exact ⟨as, e _ _ h1, pairs_le e h2⟩
theorem paired_snoc {α β : Type} {F : α → β → Prop} : ∀ {l : List α} {m : List β} {x : α} {y : β}, Paired F l m → F x y → Paired F (l ++ [x]) (m ++ [y])
  | _, _, _, _, .nil, h => .cons h .nil
  | _, _, _, _, .cons r t, h => .cons r (paired_snoc t h)
theorem paired_take {α β : Type} {F : α → β → Prop} : ∀ {l : List α} {m : List β} (n : Nat), Paired F l m → Paired F (l.take n) (m.take n)
  | _, _, 0, _ => .nil
  | _, _, _ + 1, .nil => .nil
  | _, _, n + 1, .cons r t => .cons r (paired_take n t)
theorem paired_drop {α β : Type} {F : α → β → Prop} : ∀ {l : List α} {m : List β} (n : Nat), Paired F l m → Paired F (l.drop n) (m.drop n)
  | _, _, 0, h => h
  | _, _, _ + 1, .nil => .nil
  | _, _, n + 1, .cons r t => paired_drop n t
theorem paired_len {α β : Type} {F : α → β → Prop} : ∀ {l : List α} {m : List β}, Paired F l m → l.length = m.length
  | _, _, .nil => rfl
  | _, _, .cons _ t => congrArg (· + 1) (paired_len t)
structure Good (m : Nat) (ps qs : List (Str × Str)) : Prop where
  one : 1 ≤ ps.length
  le1 : ps.length ≤ m
  le2 : qs.length ≤ m
  nd : ((ps ++ qs).map (·.1)).Nodup
  ok : ∀ p ∈ ps ++ qs, nameL (cps p.1) = true ∧ signsL (cps p.2) = true
def rIntB : List V → Hp → VK → Prop := fun xs H Q => ∃ k, xs = [.bl k] ∧ Q (.int (if k then 1 else 0)) H
theorem call_intB {X : Cx} : CallR X (.type "int") rIntB := CallR.imp call_int1 fun xs H Q h => .inr h
section
variable {P : Program} {w : World} {K : PySem.W.Frag} {mg : Str → Option Value} {base : Heap}
/-- the parts of drawn streams -/
def spParts : Sp := fun vs H Q _ => ∃ (a : Addr) (m : Nat), vs = [.ref a, .int (m : Int)] ∧ Pot H a ∧ 1 ≤ m ∧ m ≤ 3 ∧
  ∀ (q t1 t2 : Addr) (ps qs : List (Str × Str)) (H' : Hp), Good m ps qs → H q = none → H' q = some (.lst [.ref t1, .ref t2]) → PartsT H' t1 ps → PartsT H' t2 qs → Stp a H H' → Q (.ref q) H'
abbrev s_parts : Stmt := top 32
theorem sc_parts : FnScope ["pot", "most", "many", "more", "pairs", "name"] ["pot", "most"] (defScope s_parts) := ⟨rfl, rfl, rfl, by decide +kernel, rfl, by decide +kernel, by decide +kernel⟩
theorem cal_parts (T : Bs mg) (D : Df K mg "_law_parts" s_parts ["pot", "most"]) (C_dip : Cal P w K mg base 1 "_law_dip" spDip) (C_names : Cal P w K mg base 4 "_law_names" spNames) (C_signs : Cal P w K mg base 3 "_law_signs" spSigns) : Cal P w K mg base 5 "_law_parts" spParts := by
  refine D.cal sc_parts (fun vs H Q E h => ?_) (fun f cdv A outer s H vs Q E hr h => ?_)
  · obtain ⟨a, m, rfl, _⟩ := h
    rfl
  · obtain ⟨a, m, rfl, hp, hm1, hm3, k⟩ := h
    refine ⟨_, pss_cons (ps_par (i := 2) (j := 3) rfl sc_parts.nd rfl rfl (by decide) rfl rfl (pa_cons (pe_op op_add pe_int (pc C_dip hr (pa_cons (pv 0) (pa_cons (pv 1) pa_nil)))) (pa_cons (pc C_dip hr (pa_cons (pv 0) (pa_cons (pe_op op_add (pv 1) pe_int) pa_nil))) pa_nil)) (by rfl))
      (pss_cons (ps_setLc (i := 4) (own := [("name", 5)]) (te := (tTup (tCons (tVar 5) (tCons (tCallS spSigns (fun _ => E0) (tCons (tVar 0) tNil)) tNil)))) rfl sc_parts.nd rfl rfl (sw_true rfl rfl rfl (by decide +kernel)) (pi_list (pc C_names hr (pa_cons (pv 0) (pa_cons (pe_op op_add (pv 2) (pv 3)) pa_nil)))) (blkOk_by (N := ["pot", "most", "many", "more", "pairs", "name"]) (sc := defScope s_parts) (by decide +kernel)) (fun _ _ _ _ _ => (pg_name (i := 5) sc_parts.nd rfl (Or.inl rfl))) (fun _ _ _ _ _ => pts_nil) (fun _ _ _ _ _ => (pe_tup (pa_cons (pv 5) (pa_cons (pc C_signs hr (pa_cons (pv 0) pa_nil)) pa_nil)))))
      (pss_one (ps_ret (pe_lst (pa_cons (pt call_tuple_of T.z_tuple (pa_cons (pe_slice sl_list (pv 4) po_none (po_some (pv 2))) pa_nil)) (pa_cons (pt call_tuple_of T.z_tuple (pa_cons (pe_slice sl_list (pv 4) (po_some (pv 2)) po_none) pa_nil)) pa_nil)))))), ?_⟩
    refine ⟨_, rfl, _, rfl, a, (m : Int), rfl, hp, by omega, by omega, fun r H1 r0 r1 st1 => ?_⟩
    refine ⟨_, _, rfl, rfl, _, rfl, _, rfl, _, _, rfl, rfl, a, (m : Int) + 1, rfl, st1.pot, by omega, by omega, fun r2 H2 r20 r21 st2 => ?_⟩
    have s2 := st1.trans st2
    refine ⟨_, _, rfl, ?_⟩
    refine ⟨_, rfl, _, rfl, _, rfl, _, _, rfl, rfl, a, _, rfl, s2.pot, by omega, by omega, fun nm xs H3 hlen nd good hnm hl st3 => ?_⟩
    have s3 := s2.trans st3
    have nma : nm ≠ a := s2.pot.ne hnm
    have hnm0 : H nm = none := s2.free hnm nma
    refine ⟨nm, rfl, ⟨_, SqL.of hl⟩, fun D hD => ?_⟩
    have hDa : D ≠ a := s3.pot.ne hD
    have hD0 : H D = none := s3.free hD hDa
    have hDn : D ≠ nm := (ne_of_none hl hD).symm
    refine lc_list (K := K) (a := nm) (xs := xs.map V.str) (fun i H4 => ∃ (as : List Addr) (ps : List (Str × Str)), Stp a H H4 ∧ H4 nm = some (.lst (xs.map V.str)) ∧ H4 D = some (.lst (as.map V.ref)) ∧ Paired (PairAt H4) as ps ∧
      ps.map (·.1) = xs.take i ∧ ∀ p ∈ ps, signsL (cps p.2) = true) ?_ ?_ ?_ ?_
    · exact ⟨[], [], s3.new hD, by rw [upd_ne hDn.symm]; exact hl, upd_same, .nil, rfl, fun _ h => nomatch h⟩
    · rintro i H4 _ ⟨_, _, _, h1, _⟩
      exact SqL.of h1
    · rintro i x H4 hx ⟨as, ps, st, hn, hd, pp, e, ok⟩
      rw [List.getElem?_map] at hx
      obtain ⟨y, hy, rfl⟩ := Option.map_eq_some_iff.mp hx
      have hi : i < xs.length := (List.getElem?_eq_some_iff.mp hy).1
      refine ⟨rfl, _, rfl, _, rfl, a, rfl, st.pot, fun z H5 hz st5 => ⟨by show 2 ≤ sizeLine; decide, fun t ht => ?_⟩⟩
      have hd5 := st5.get hd hDa
      have hn5 := st5.get hn nma
      have htD : t ≠ D := (ne_of_none hd5 ht).symm
      have htn : t ≠ nm := (ne_of_none hn5 ht).symm
      have s6 : Stp a H (upd H5 t (.tup [.str y, .str z])) := (st.trans st5).new ht
      have hd6 : upd H5 t (.tup [.str y, .str z]) D = some (.lst (as.map V.ref)) := by rw [upd_ne htD.symm]; exact hd5
      have el := paired_len pp
      have el2 : ps.length = i := by
        have := congrArg List.length e
        rw [List.length_map, List.length_take] at this
        omega
      refine ⟨_, hd6, by rw [List.length_map, sizeLine_eq]; omega, as ++ [t], ps ++ [(y, z)], s6.mut hD0 hDa, ?_, by rw [upd_same, List.map_append]; rfl, ?_, ?_, ?_⟩
      · rw [upd_ne hDn.symm, upd_ne htn.symm]; exact hn5
      · have le : Tle H4 (upd (upd H5 t (.tup [.str y, .str z])) D (.lst (as.map V.ref ++ [.ref t]))) := ((st5.tle st.pot).trans (Tle.new ht)).trans (Tle.lst hd6)
        refine paired_snoc (pairs_le le pp) ?_
        show upd (upd H5 t (.tup [.str y, .str z])) D _ t = _
        rw [upd_ne htD, upd_same]
      · rw [List.map_append, e, List.take_add_one, hy]; rfl
      · intro p hp'
        rcases List.mem_append.mp hp' with h | h
        · exact ok p h
        · rw [List.mem_singleton.mp h]; exact hz
    · rintro H4 ⟨as, ps, st, hn, hd, pp, e, ok⟩
      rw [List.length_map, List.take_length] at e
      have el := paired_len pp
      have el2 : ps.length = xs.length := by rw [← e, List.length_map]
      have hdd := SqL.of (K := K) hd
      refine ⟨_, rfl, _, rfl, _, rfl, D, _, rfl, hdd, fun p5 hp5 => ?_⟩
      have s5 := st.new (o := .lst (cutV (as.map V.ref) none (some (1 + r)))) hp5
      refine ⟨p5, _, rfl, .inl ⟨SqL.of upd_same, fun t1 ht1 => ?_⟩⟩
      have s6 := s5.new (o := .tup (cutV (as.map V.ref) none (some (1 + r)))) ht1
      have hd6 : upd (upd H4 p5 (.lst (cutV (as.map V.ref) none (some (1 + r))))) t1 (.tup (cutV (as.map V.ref) none (some (1 + r)))) D = some (.lst (as.map V.ref)) := by
        have n1 : D ≠ p5 := ne_of_none hd hp5
        have n2 : D ≠ t1 := ne_of_none (by rw [upd_ne n1]; exact hd) ht1
        rw [upd_ne n2, upd_ne n1]; exact hd
      refine ⟨_, rfl, _, rfl, _, rfl, D, _, rfl, SqL.of hd6, fun p7 hp7 => ?_⟩
      have s7 := s6.new (o := .lst (cutV (as.map V.ref) (some (1 + r)) none)) hp7
      refine ⟨p7, _, rfl, .inl ⟨SqL.of upd_same, fun t2 ht2 => ?_⟩⟩
      have s8 := s7.new (o := .tup (cutV (as.map V.ref) (some (1 + r)) none)) ht2
      refine ⟨by show 2 ≤ sizeLine; decide, fun q hq => ?_⟩
      have s9 := s8.new (o := .lst [.ref t1, .ref t2]) hq
      have hq0 : H q = none := s8.free hq (s8.pot.ne hq)
      have le5 : Tle H4 (upd H4 p5 (.lst (cutV (as.map V.ref) none (some (1 + r))))) := Tle.new hp5
      have le6 := le5.trans (Tle.new (o := .tup (cutV (as.map V.ref) none (some (1 + r)))) ht1)
      have le7 := le6.trans (Tle.new (o := .lst (cutV (as.map V.ref) (some (1 + r)) none)) hp7)
      have le8 := le7.trans (Tle.new (o := .tup (cutV (as.map V.ref) (some (1 + r)) none)) ht2)
      have le9 := le8.trans (Tle.new (o := .lst [.ref t1, .ref t2]) hq)
      have nn : ((1 + r).toNat : Int) = 1 + r := Int.toNat_of_nonneg (by omega)
      refine k q t1 t2 (ps.take (1 + r).toNat) (ps.drop (1 + r).toNat) _ ⟨?_, ?_, ?_, ?_, ?_⟩ hq0 upd_same ⟨as.take (1 + r).toNat, ?_, ?_⟩ ⟨as.drop (1 + r).toNat, ?_, ?_⟩ s9
      · rw [List.length_take]; omega
      · rw [List.length_take]; omega
      · rw [List.length_drop]; omega
      · rw [List.take_append_drop, e]; exact nd
      · rw [List.take_append_drop]
        intro p hp'
        refine ⟨good p.1 ?_, ok p hp'⟩
        rw [← e]; exact List.mem_map_of_mem hp'
      · have n1 : t1 ≠ p7 := ne_of_none (by rw [upd_same]) hp7
        have n2 : t1 ≠ t2 := ne_of_none (by rw [upd_ne n1, upd_same]) ht2
        have n3 : t1 ≠ q := ne_of_none (by rw [upd_ne n2, upd_ne n1, upd_same]) hq
        rw [upd_ne n3, upd_ne n2, upd_ne n1, upd_same, cutV_to _ _ (by omega), List.map_take]
      · exact pairs_le le9 (paired_take _ pp)
      · have n3 : t2 ≠ q := ne_of_none upd_same hq
        rw [upd_ne n3, upd_same, cutV_from _ _ (by omega), List.map_drop]
      · exact pairs_le le9 (paired_drop _ pp)
/-- the pot of a script's cell -/
def spFilled (K : PySem.W.Frag) : Sp := fun vs H Q _ => ∃ (p : Addr) (ns : List Int) (i : Int), vs = [.ref p, .int i] ∧ SqL K H p (ns.map V.int) ∧ 0 ≤ i ∧ i < 1000 ∧ ∀ (a : Addr) (H' : Hp), H a = none → Pot H' a → Same H H' → Q (.ref a) H'
abbrev s_filled : Stmt := top 24
theorem sc_filled : FnScope ["script", "at", "cell", "whole", "mixed"] ["script", "at"] (defScope s_filled) := ⟨rfl, rfl, rfl, by decide +kernel, rfl, by decide +kernel, by decide +kernel⟩
theorem cal_filled (T : Bs mg) (D : Df K mg "_law_filled" s_filled ["script", "at"]) : Cal P w K mg base 1 "_law_filled" (spFilled K) := by
  refine D.cal sc_filled (fun vs H Q E h => ?_) (fun f cdv A outer s H vs Q E hr h => ?_)
  · obtain ⟨p, ns, i, rfl, _⟩ := h
    rfl
  · obtain ⟨p, ns, i, rfl, hp, hi0, hi1, k⟩ := h
    refine ⟨_, C8.pss_cut (ps_set (i := 2) sc_filled.nd rfl (.inl rfl) (pe_ifExp (pt_cmpR op_lt (pv 1) (pb call_len3 T.z_len (pa_cons (pv 0) pa_nil)) (nomark _)) (pe_ix ix_list (pv 0) (pv 1) (fun _ _ => rfl)) (pe_op op_add (pe_op op_mulR pe_int (pv 1)) pe_int)))
      (pss_cons (ps_set (i := 3) sc_filled.nd rfl (.inl rfl) (pe_op op_modR (pt call_intI T.z_int (pa_cons (pb call_abs T.z_abs (pa_cons (pv 2) pa_nil)) pa_nil)) (pe_op op_powR (pe_op op_powR pe_int pe_int) pe_int)))
      (pss_cons (ps_set (i := 4) sc_filled.nd rfl (.inl rfl) (pe_op op_modR (pt call_intI T.z_int (pa_cons (pe_op op_add (pe_op op_add (pe_op op_add (pv 3) (pe_op op_mulR pe_int (pv 1))) (pe_op op_mulR pe_int (pt call_intB T.z_int (pa_cons (pe_cmpR op_lt (pv 2) pe_int (nomark _)) pa_nil)))) pe_int) pa_nil)) pe_int))
      (pss_one (ps_ret (pe_lst (pa_cons (pb (call_max2 rfl) T.z_max (pa_cons pe_int (pa_cons (pe_op op_sub (pv 3) (pe_op op_powR pe_int pe_int)) pa_nil))) (pa_cons (pv 4) (pa_cons pe_int pa_nil)))))))), ?_⟩
    refine ⟨fun σ' H' => H' = H ∧ ∃ c : Int, σ' = [some (V.ref p), some (.int i), some (.int c), none, none], ?_, ?_⟩
    · refine ⟨_, rfl, _, rfl, _, _, rfl, .inl ⟨p, rfl, .inl hp⟩, _, _, rfl, rfl, _, rfl, ?_⟩
      refine ite2 (fun c => ?_) (fun c => ?_)
      · have c : i < ((ns.map V.int).length : Int) := of_decide_eq_true c
        rw [List.length_map] at c
        have hi : i.toNat < ns.length := by omega
        refine ⟨_, rfl, _, rfl, p, _, i, .int ns[i.toNat], rfl, rfl, hp, atI_of hi0 ?_, rfl, _, rfl⟩
        rw [List.getElem?_map, List.getElem?_eq_getElem hi]; rfl
      · exact ⟨_, rfl, _, _, rfl, rfl, .inl ⟨by decide, by decide⟩, fun r _ => ⟨_, _, rfl, rfl, rfl, _, rfl⟩⟩
    · rintro σ' H' ⟨rfl, c, rfl⟩
      refine ⟨_, rfl, _, rfl, _, rfl, ?_⟩
      refine ⟨_, _, rfl, rfl, by decide +kernel, _, _, rfl, rfl, by decide +kernel, _, _, rfl, rfl, by decide +kernel, fun wh w0 _ => ?_⟩
      refine ⟨_, rfl, _, rfl, _, _, rfl, rfl, .inl ⟨by decide, by decide⟩, fun r1 _ => ⟨_, _, rfl, rfl, ?_⟩⟩
      refine ⟨_, rfl, _, _, rfl, rfl, _, rfl, ?_⟩
      refine ⟨_, _, rfl, rfl, .inr ⟨?_, ?_⟩, fun r2 _ => ?_⟩
      · split <;> decide
      · split <;> decide
      refine ⟨_, _, rfl, rfl, _, _, rfl, rfl, _, rfl, _, _, rfl, rfl, by decide, fun mx m0 m1 => ?_⟩
      refine ⟨_, rfl, _, _, rfl, rfl, by decide +kernel, _, _, rfl, rfl, _, _, rfl, _, rfl, by show 3 ≤ sizeLine; decide, fun a ha => ?_⟩
      refine k a _ ha ⟨_, _, _, upd_same, ?_, m0, m1, by omega⟩ (same_upd (Same.refl _) ha)
      split <;> omega
end
end Fs
namespace Fs
open PySem PySem.Spec PyProof.Rows L2
/-! ### for a, b in zip(text, text) -/
def ItzS (x y : Str) : It :=
  ⟨fun i _ => i < x.cps.size ∧ i < y.cps.size, fun i H v H' => ∃ T c d, v = .ref T ∧ H T = none ∧ H' = upd H T (.tup [S1 c, S1 d]) ∧ x.cps[i]? = some c ∧ y.cps[i]? = some d,
    fun i _ => i ≤ x.cps.size ∧ i ≤ y.cps.size ∧ (i = x.cps.size ∨ i = y.cps.size)⟩
theorem turn_zipS {P : Program} {w : World} {K : PySem.W.Frag} {elts : List Expr} {kk : Nat} {tpos : Pos} {x y : Str} {t u : Tok} {z TI TO i1 i2 : Addr} (S : ZipSep2 z TI TO i1 i2 [i1] [i2]) :
    Turn P w K (.Tuple elts kk tpos) (ItzS x y) [z, TI, TO, i1, i2] z
      (fun i h => IsZip h z TI TO .none ∧ IsTupOf2 h TI (.ref i1) (.ref i2) ∧ (∃ a b, IsTupOf2 h TO a b) ∧ h.IsStrIter i1 (strIterType x) x t i ∧ h.IsStrIter i2 (strIterType y) y u i) := by
  constructor
  case mem => simp
  case obj =>
    rintro i h ⟨h1, h2, ⟨a, b, h3⟩, ⟨o1, e1, _, d1⟩, ⟨o2, e2, _, d2⟩⟩ c hc
    simp only [List.mem_cons, List.not_mem_nil, or_false] at hc
    rcases hc with rfl | rfl | rfl | rfl | rfl
    · exact ⟨_, h1, fun v q => by cases q⟩
    · exact ⟨_, h2, fun v q => by cases q⟩
    · exact ⟨_, h3, fun v q => by cases q⟩
    · exact ⟨_, e1, fun v q => by rw [d1] at q; cases q⟩
    · exact ⟨_, e2, fun v q => by rw [d2] at q; cases q⟩
  case keep =>
    rintro i h h' ⟨h1, h2, ⟨a, b, h3⟩, ⟨o1, e1, r1⟩, ⟨o2, e2, r2⟩⟩ k
    exact ⟨k z (by simp) _ h1, k TI (by simp) _ h2, ⟨a, b, k TO (by simp) _ h3⟩, ⟨o1, k i1 (by simp) _ e1, r1⟩, ⟨o2, k i2 (by simp) _ e2, r2⟩⟩
  case item =>
    rintro X rfl rfl rfl hc i pins s σ H E I hf ⟨h1, h2, ⟨a, b, h3⟩, h4, h5⟩ ⟨hx, hy⟩
    have hh := I.ok.hd hc
    refine wpAny_pyNext_zipD2_item S (.text (A := X.A.in1) hh i1 x t) (.text (A := X.A.in1) hh i2 y u) h1 h2 h3 h4 h5 hx hy ?_
    rintro x1 x2 h' tk ⟨c, t1, hc1, rfl⟩ ⟨d, t2, hd1, rfl⟩ z1 g3 g4 g5 gT gsz kp
    refine ⟨_, rfl, wpAny_letOwnedTupleGo_zip (s := { s with heap := h', toks := tk }) z1 fun h'' z2 sb => ?_⟩
    have lz : z < s.heap.objs.size := Heap.lt_size h1
    have gT2 : h''.get? s.heap.objs.size = some { cls := .type "tuple", data := .seq #[.str ⟨#[c]⟩ t1, .str ⟨#[d]⟩ t2] } := (sb.2 _ (Nat.ne_of_gt lz)).trans gT
    have new : ObjOk X.prog X.w (upd H s.heap.objs.size (.tup [S1 c, S1 d])) h'' s.heap.objs.size (.tup [S1 c, S1 d]) :=
      ⟨by show 2 ≤ sizeLine; decide, [_, _], .cons ⟨t1, rfl⟩ (.cons ⟨t2, rfl⟩ .nil), ⟨_, gT2, rfl, _, rfl⟩⟩
    have I2 : Inv X pins σ (upd H s.heap.objs.size (.tup [S1 c, S1 d])) { s with heap := h'', toks := tk } := by
      refine I.turnedNew (ch := [z, TI, TO, i1, i2]) (fun b o hb q => ?_) hf (Nat.le_refl _) new
      simp only [List.mem_cons, List.not_mem_nil, or_false, not_or] at hb
      exact (sb.2 b hb.1).trans (kp b o hb.1 hb.2.2.1 hb.2.2.2.1 hb.2.2.2.2 q)
    have n1 : i1 ≠ z := fun e => S.zf1 (by rw [← e]; exact S.mem1)
    have n2 : i2 ≠ z := fun e => S.zf2 (by rw [← e]; exact S.mem2)
    refine ⟨.ref s.heap.objs.size, _, I2, rfl, ⟨_, c, d, rfl, I.hok.fresh (Nat.le_refl _), rfl, hc1, hd1⟩, ⟨z2, ?_, ⟨.str ⟨#[c]⟩ t1, .str ⟨#[d]⟩ t2, ?_⟩, ?_, ?_⟩, fun b hb => ?_⟩
    · have m1 : TI ≠ TO := S.TITO
      exact (sb.2 _ S.TIz).trans (kp _ _ S.TIz m1 S.TIi1 S.TIi2 h2)
    · exact (sb.2 _ S.TOz).trans g3
    · obtain ⟨o, e, r⟩ := g4
      exact ⟨o, (sb.2 _ n1).trans e, r⟩
    · obtain ⟨o, e, r⟩ := g5
      exact ⟨o, (sb.2 _ n2).trans e, r⟩
    · have hlt : b < s.heap.objs.size := by
        simp only [List.mem_cons, List.not_mem_nil, or_false] at hb
        rcases hb with rfl | rfl | rfl | rfl | rfl
        · exact lz
        · exact Heap.lt_size h2
        · exact Heap.lt_size h3
        · obtain ⟨_, e, _⟩ := h4; exact Heap.lt_size e
        · obtain ⟨_, e, _⟩ := h5; exact Heap.lt_size e
      rw [upd_ne (Nat.ne_of_lt hlt)]
      exact (hf b hb).1
  case done =>
    rintro X rfl rfl rfl hc i pins s σ H E I hf ⟨h1, h2, ⟨a, b, h3⟩, h4, h5⟩ ⟨l1, l2, l3⟩
    have hh := I.ok.hd hc
    refine wpAny_pyNext_zipD2_end S (.text (A := X.A.in1) hh i1 x t) (.text (A := X.A.in1) hh i2 y u) h1 h2 h3 h4 h5 l1 l2 l3 fun h' tk kp => ⟨rfl, ?_⟩
    refine I.turnedL (ch := [z, TI, TO, i1, i2]) (fun b o hb q => ?_) hf
    simp only [List.mem_cons, List.not_mem_nil, or_false, not_or] at hb
    exact kp b o hb.1 hb.2.2.1 hb.2.2.2.1 hb.2.2.2.2 q
  case self =>
    rintro A i s Q E ⟨h1, _⟩ q
    exact wpAny_pyIter_zip h1 q
def iZipS (ta : TA) : TI := fun σ H R => ta σ H fun vs H1 => ∃ x y : Str, vs = [.str x, .str y] ∧ R (ItzS x y) H1
theorem pi_zipS {X : Cx} {e e2 : Expr} {ta : TA} {p pos tpos : Pos} {elts : List Expr} {kk : Nat} (hm : X.mg "zip" = none) (ha : PA X [e, e2] ta) (hg : Gl X "zip" := by rfl)
    (hs : starEach [e, e2] X.env = (false, eval e X.env) :: starEach [e2] X.env := by rfl) (hpl : (backTo pos (starEach [e2] X.env)).any (·.1) = false := by rfl) :
    PI X (.Tuple elts kk tpos) (.Call (.Name "zip" p) [e, e2] [] pos) (iZipS ta) := by
  constructor
  intro pins s σ H R I h
  refine Call_ (ld_blt I hg hm PyProof.Rows.boot_zip (PyProof.Rows.callWith_type1 (thn (ha.run pos pins s σ H _ I h) ?_) hs hpl))
  rintro us s1 ⟨vs, H1, I1, rel, x, y, rfl, q⟩
  obtain ⟨u1, u2, rfl, ⟨t, rfl⟩, ⟨u, rfl⟩⟩ := vals2 rel
  refine zip_begins2 (begins_text x t) (begins_text y u) trivial trivial fun h' z1 z2 z3 z4 z5 zs kp => wpAny_pyIter_zip z1 ?_
  have I2 : Inv X pins σ H1 { s1 with heap := h' } := I1.kept (t' := s1.toks) kp
  refine ⟨s1.heap.objs.size + 4, [s1.heap.objs.size + 4, s1.heap.objs.size + 2, s1.heap.objs.size + 3, s1.heap.objs.size, s1.heap.objs.size + 1], _, _, H1, rfl, I2,
    turn_zipS (x := x) (y := y) (t := t) (u := u) (zip_sep2 (fp1 := []) (fp2 := []) (fun _ c => nomatch c) (fun _ c => nomatch c)), ⟨z1, z2, ⟨_, _, z3⟩, ⟨_, z4, rfl, rfl⟩, ⟨_, z5, rfl, rfl⟩⟩, fun b hb => ?_, q⟩
  have hle : s1.heap.objs.size ≤ b := by
    simp only [List.mem_cons, List.not_mem_nil, or_false] at hb
    rcases hb with rfl | rfl | rfl | rfl | rfl
    · exact Nat.le_add_right _ _
    · exact Nat.le_add_right _ _
    · exact Nat.le_add_right _ _
    · exact Nat.le_refl _
    · exact Nat.le_add_right _ _
  exact I1.fpOk hle (I1.hok.fresh hle)
theorem walk_zipS {x y : Str} {n : Nat} (hn : n = min x.cps.size y.cps.size) : Walk (ItzS x y) n (fun _ => True) (fun i H v H' => ∃ T c d, v = .ref T ∧ H T = none ∧ H' = upd H T (.tup [S1 c, S1 d]) ∧ x.cps[i]? = some c ∧ y.cps[i]? = some d) := by
  subst hn
  refine ⟨fun i _ hi _ => ?_, fun _ _ => ?_, fun _ _ _ _ _ _ h => h⟩
  · exact ⟨by omega, by omega⟩
  · exact ⟨by omega, by omega, by omega⟩
end Fs
namespace Fs
open PySem PySem.Spec PyProof.Rows L2
/-! ### set(list of texts), and how many there are -/
def ddS (acc : List Str) (x : Str) : List Str := if x ∈ acc then acc else acc ++ [x]
def distinct (xs : List Str) : List Str := xs.foldl ddS []
theorem dd_mem {acc : List Str} {x y : Str} : y ∈ ddS acc x ↔ y ∈ acc ∨ y = x := by
  unfold ddS
  by_cases h : x ∈ acc
  · rw [if_pos h]
    exact ⟨.inl, fun q => q.elim id fun e => e ▸ h⟩
  · rw [if_neg h, List.mem_append, List.mem_singleton]
theorem dd_nodup {acc : List Str} {x : Str} (h : acc.Nodup) : (ddS acc x).Nodup := by
  unfold ddS
  by_cases c : x ∈ acc
  · rw [if_pos c]; exact h
  · rw [if_neg c, List.nodup_append]
    exact ⟨h, by simp, fun u hu v hv e => c (by rw [← List.mem_singleton.mp hv, ← e]; exact hu)⟩
theorem dd_len (acc : List Str) (x : Str) : (ddS acc x).length ≤ acc.length + 1 := by
  unfold ddS
  split
  · omega
  · rw [List.length_append, List.length_singleton]
    exact Nat.le_refl _
theorem distinct_snoc (xs : List Str) (x : Str) : distinct (xs ++ [x]) = ddS (distinct xs) x := by
  unfold distinct
  rw [List.foldl_append]; rfl
theorem distinct_len (xs : List Str) : (distinct xs).length ≤ xs.length := by
  have : ∀ (ys acc : List Str), (ys.foldl ddS acc).length ≤ acc.length + ys.length := by
    intro ys
    induction ys with
    | nil => intro acc; exact Nat.le_refl _
    | cons y ys ih =>
      intro acc
      have h1 := ih (ddS acc y)
      have h2 := dd_len acc y
      rw [List.foldl_cons, List.length_cons]
      omega
  have := this xs []
  rw [List.length_nil, Nat.zero_add] at this
  exact this
theorem distinct_full : ∀ (ys acc : List Str), acc.Nodup → ((ys.foldl ddS acc).length = acc.length + ys.length ↔ (acc ++ ys).Nodup)
  | [], acc, h => by simp [h]
  | y :: ys, acc, h => by
    rw [List.foldl_cons]
    have ih := distinct_full ys (ddS acc y) (dd_nodup h)
    by_cases c : y ∈ acc
    · have hy : ddS acc y = acc := if_pos c
      rw [hy] at ih ⊢
      constructor
      · intro e
        have hle : (ys.foldl ddS acc).length ≤ acc.length + ys.length := by
          have : ∀ (zs a : List Str), (zs.foldl ddS a).length ≤ a.length + zs.length := by
            intro zs
            induction zs with
            | nil => intro a; exact Nat.le_refl _
            | cons z zs ih2 =>
              intro a
              have h1 := ih2 (ddS a z)
              have h2 := dd_len a z
              rw [List.foldl_cons, List.length_cons]
              omega
          exact this ys acc
        rw [List.length_cons] at e
        omega
      · intro nd
        rw [List.nodup_append] at nd
        exact (nd.2.2 y c y (List.mem_cons_self ..) rfl).elim
    · have hy : ddS acc y = acc ++ [y] := if_neg c
      rw [hy] at ih ⊢
      rw [List.length_append, List.length_singleton, List.append_assoc] at ih
      rw [List.length_cons]
      rw [show acc.length + (ys.length + 1) = acc.length + 1 + ys.length by omega]
      exact ih
theorem distinct_iff (xs : List Str) : (distinct xs).length = xs.length ↔ xs.Nodup := by
  have h := distinct_full xs [] List.nodup_nil
  rw [List.length_nil, Nat.zero_add, List.nil_append] at h
  exact h
def inS (xs : List Str) : Str → Bool := fun y => decide (y ∈ xs)
section
variable {prog : Program} {w : World} {A : Around} {R : Result → Shared → Prop} {I : Addr} {fp wr : List Addr} {G : Array GenState → Array GenState → Prop} {n : Nat} {P : Nat → Value → Prop} {St : Nat → Shared → Prop}
theorem fill_set (W : WalksS prog w A.in1 I fp wr G n P St) (a : Addr) (off : a ∉ fp) (xs : List Str) (len : xs.length = n) (small : n + 1 < scanBound) (val : ∀ i v, P i v → ∃ t, v = .str (xs.getD i Str.empty) t) :
    ∀ (more i : Nat) (s : Shared), n - i = more → i ≤ n → St i s → s.heap.SetOf (strKind prog w) a (inS (distinct (xs.take i))) (distinct (xs.take i)).length →
      (∀ s', Moved (a :: wr) G s s' → s'.heap.SetOf (strKind prog w) a (inS (distinct xs)) (distinct xs).length → R (.ok (.ret .none)) s') → codeAny (model prog w) A (.builtin "set.update.loop" ⟨[.ref a, .ref I], []⟩) R s := by
  have off2 : a ∉ wr := fun c => off (W.sub _ c)
  have sub2 : ∀ b ∈ wr, b ∈ a :: wr := fun b c => List.mem_cons_of_mem _ c
  intro more
  induction more with
  | zero =>
    intro i s e1 e2 st set fin
    obtain rfl : i = n := by omega
    apply codeAny_builtin PyProof.Rows.F.entry_set_update_loop
    rw [Around.under_plainId PyProof.Rows.F.plain_set_update_loop _]
    refine wpAny_bind (W.done s _ _ st ?_)
    intro s' mv
    refine wpAny_pure (fin s' (mv.mono sub2) ?_)
    rw [← len, List.take_length] at set
    obtain ⟨o, es, ep, tb, g, r⟩ := set
    exact ⟨o, es, ep, tb, mv.heap a _ off2 g, r⟩
  | succ more ih =>
    intro i s e1 e2 st set fin
    have lt : i < n := by omega
    apply codeAny_builtin PyProof.Rows.F.entry_set_update_loop
    rw [Around.under_plainId PyProof.Rows.F.plain_set_update_loop _]
    refine wpAny_bind (W.item i s _ _ lt st ?_)
    intro v s' pv st' mv
    rcases val i v pv with ⟨t, rfl⟩
    have hx : xs[i]? = some (xs.getD i Str.empty) := by rw [List.getD_eq_getElem?_getD, List.getElem?_eq_getElem (by omega)]; rfl
    generalize xs.getD i Str.empty = x at hx
    have set' : s'.heap.SetOf (strKind prog w) a (inS (distinct (xs.take i))) (distinct (xs.take i)).length := by
      obtain ⟨o, es, ep, tb, g, r⟩ := set
      exact ⟨o, es, ep, tb, mv.heap a _ off2 g, r⟩
    have room : (distinct (xs.take i)).length + 1 < scanBound := by
      have c1 := distinct_len (xs.take i)
      rw [List.length_take] at c1
      omega
    have et : xs.take (i + 1) = xs.take i ++ [x] := by rw [List.take_add_one, hx]; rfl
    refine wpAny_bind (wpAny_holding ?_)
    unfold setAdd
    refine wpAny_holding (wpAny_bind ((strKind prog w).pyHash (k := x) (strKind_is _ _ _ _) ?_))
    refine wpAny_setAddHashed_of (knd := strKind prog w) (s := { s' with toks := s'.toks + 1 }) (strKind_is _ _ _ _) rfl set' room ?_
    intro h' same set2
    have set3 : h'.SetOf (strKind prog w) a (inS (distinct (xs.take (i + 1)))) (distinct (xs.take (i + 1))).length := by
      rw [et, distinct_snoc]
      refine PyProof.Rows.SetOf_congr set2 (fun k => ?_) ?_
      · unfold inS
        by_cases c1 : k ∈ distinct (xs.take i)
        · simp [c1, dd_mem]
        · by_cases c2 : k = x
          · simp [c1, c2, dd_mem]
          · simp [c1, c2, dd_mem]
      · unfold inS ddS
        by_cases c : x ∈ distinct (xs.take i)
        · simp [c]
        · simp [c]
    refine wpAny_pure ⟨plainId_quiet PyProof.Rows.F.plain_set_update_loop _, ih (i + 1) _ (by omega) lt (W.frame _ s' _ _ st' (Nat.le_succ _) ?_) set3 ?_⟩
    · intro b hb o g
      rw [same.2 b (fun e => off (e ▸ hb))]; exact g
    · intro s2 mv2 set4
      refine fin s2 (Moved.trans W.gtrans ((mv.mono sub2).then_heap (Nat.le_succ _) ?_) mv2) set4
      intro b o hb g
      rw [same.2 b (fun e => hb (by rw [e]; exact List.mem_cons_self ..))]; exact g
end
abbrev bare (led : Bool) : Obj := { cls := .type "set", dict := none, data := .set #[] 0 (.fresh 0 0 led) }
section
variable {prog : Program} {w : World} {A : Around} {E : Value → Shared → Prop} {s : Shared}
theorem make_set {l : Addr} {its : Array Value} {xs : List Str} {Q : Value → Shared → Prop} (hh : A.handled = none) (isl : s.heap.IsList l its) (isx : StrsAre its.toList xs) (small : xs.length + 1 < scanBound)
    (fin : ∀ (h' : Heap) (tk : Nat), h'.SetOf (strKind prog w) s.heap.objs.size (inS (distinct xs)) (distinct xs).length → (∀ b o, b < s.heap.objs.size → s.heap.get? b = some o → h'.get? b = some o) → Q (.ref s.heap.objs.size) { s with heap := h', toks := tk }) :
    wpAny (model prog w) A (call (.type "set") [.ref l]) Q E s := by
  obtain ⟨c, tl, mro⟩ := PySem.F.called_set.mro
  have m1 := PySem.F.called_set.made
  have m2 := PySem.F.called_set.sub
  apply wpAny_call
  apply codeAny_of_tree
  show wpAny _ _ (callAny (.type "set") _) _ _ _
  refine wpAny_pure (And.intro (Code.quiet_builtin _ (by decide +kernel)) (codeAny_builtin PySem.F.entry_type_call ?_))
  rw [Around.under_plain (weight_type_call_type "set" [.ref l] []) rfl]
  have m3 := PySem.F.called_set.notType
  have m4 := PySem.F.called_set.canCreate
  have m5 := PySem.F.typeCall_set_1 (.ref l)
  repeat (any_goals (first | assumption | wp_step))
  refine codeAny_mono (code_set_new_1 (.ref l) (E := E) (Q₁ := fun v s1 => ∃ led : Bool, v = .ref s.heap.objs.size ∧ s1 = { s with heap := s.heap.push (bare led) }) fun led => ⟨led, rfl, rfl⟩) ?_
  rintro (err | fl) s1 got
  · exact got
  cases fl
  case next => exact got.elim
  case brk => exact got.elim
  case cont => exact got.elim
  case ret v =>
  obtain ⟨led, rfl, rfl⟩ := got
  have at0 : (s.heap.push (bare led)).get? s.heap.objs.size = some (bare led) := Heap.get?_push_size _ rfl
  have ty0 : Shared.TypeIs { s with heap := s.heap.push (bare led) } (.ref s.heap.objs.size) "set" := ⟨_, at0, rfl⟩
  have b1 := PySem.F.called_set.init.lookup
  have b2 := PySem.F.called_set.init.bind (.ref s.heap.objs.size)
  repeat (any_goals (first | assumption | wp_step))
  refine codeAny_mono (codeAny_call_builtin (R := wants (fun r s2 => r = .none ∧ ∃ h' tk, s2 = { s with heap := h', toks := tk } ∧ h'.SetOf (strKind prog w) s.heap.objs.size (inS (distinct xs)) (distinct xs).length ∧
    (∀ b o, b < s.heap.objs.size → s.heap.get? b = some o → h'.get? b = some o)) E) PySem.F.called_set.init.plain PySem.F.entry_set_init (check_set_init_1 ty0 ?_)) ?_
  · obtain ⟨⟨oc, od, dt, sl⟩, g, e1, nl, e2⟩ := isl
    simp only at e1 e2
    subst e1 e2
    have g2 : (s.heap.push (bare led)).get? l = some { cls := .type "list", dict := od, data := .seq its nl, slots := sl } := Heap.get?_push_of_some _ g
    have u1 := PySem.F.sub_list_set
    have u2 := PySem.F.sub_list_frozenset
    have u3 : (Value.type "list" == Value.type "dict") = false := by decide
    have isl2 : (s.heap.push (bare led)).IsList l its := ⟨_, g2, rfl, nl, rfl⟩
    unfold Builtin.«set.__init__» noKeywords Builtin.Frozenset.updateFrom
    generalize e3 : pyIter = PI
    wp_walk
    subst e3
    refine wpAny_pyIter_list isl2 (wpAny_bind (wpAny_runValue ?_))
    have ltl : l < s.heap.objs.size := Heap.lt_size g
    have hh3 : A.in1.in1.in1.handled = none := by simp [hh]
    have sz1 : (s.heap.push (bare led)).objs.size = s.heap.objs.size + 1 := Heap.size_push ..
    have ne1 : l ≠ (s.heap.push (bare led)).objs.size := by rw [sz1]; exact Nat.ne_of_lt (Nat.lt_succ_of_lt ltl)
    have ne2 : s.heap.objs.size ∉ [(s.heap.push (bare led)).objs.size, l] := by
      rw [sz1]
      intro q
      simp only [List.mem_cons, List.not_mem_nil, or_false] at q
      rcases q with q | q
      · exact absurd q (Nat.ne_of_lt (Nat.lt_succ_self _))
      · exact absurd q (Nat.ne_of_gt ltl)
    have len : xs.length = its.size := by rw [← StrsAre.len_eq isx, Array.length_toList]
    have val : ∀ (i : Nat) (v : Value), its[i]? = some v → ∃ t, v = .str (xs.getD i Str.empty) t := by
      intro i v hv
      exact SS.strs_at isx i v (by rw [Array.getElem?_toList]; exact hv)
    refine fill_set ((Walks.list hh3 _ l ne1 its).toS) s.heap.objs.size ne2 xs len (by rw [← len]; exact small) val (its.size - 0) 0 _ (by omega) (Nat.zero_le _) ⟨⟨_, Heap.get?_push_size _ rfl, rfl, rfl⟩, (isl2.push _)⟩ ?_ ?_
    · have at1 : ((s.heap.push (bare led)).push { cls := .type "list_iterator", data := .fields #[.ref l, .int 0 0] }).get? s.heap.objs.size = some (bare led) := Heap.get?_push_of_some _ at0
      refine PyProof.Rows.SetOf_congr ((PyProof.Rows.setObjOf_fresh (knd := strKind prog w) led).setOf at1 (by unfold scanBound; omega)) (fun k => ?_) rfl
      exact (decide_eq_false (fun c => by cases c)).symm
    · rintro ⟨h', g', d', tk', os'⟩ mv set
      cases (show g' = s.gens from mv.gens)
      cases (show d' = s.drawn from mv.drawn)
      cases (show os' = s.os from mv.os)
      show wpAny _ _ _ _ _ _
      apply wpAny_pure
      show wpAny _ _ (ret Value.none) _ _ _
      refine wpAny_pure ⟨rfl, h', tk', rfl, set, ?_⟩
      intro b o hb g3
      refine mv.heap b o ?_ (Heap.get?_push_of_some _ (Heap.get?_push_of_some _ g3))
      intro q
      simp only [List.mem_cons, List.not_mem_nil, or_false] at q
      rcases q with q | q
      · exact absurd q (Nat.ne_of_lt hb)
      · rw [sz1] at q
        exact absurd q (Nat.ne_of_lt (Nat.lt_succ_of_lt hb))
  · rintro (err | fl) s2 got2
    · exact got2
    cases fl
    case next => exact got2.elim
    case brk => exact got2.elim
    case cont => exact got2.elim
    case ret v2 =>
    obtain ⟨rfl, h', tk, rfl, set, kp⟩ := got2
    repeat (any_goals (first | assumption | wp_step))
    exact fin _ _ set kp
end
end Fs
namespace Fs
open PySem PySem.Spec PyProof.Rows L2
theorem strs_vals : ∀ {ys : List Str} {us : List Value}, Vals (ys.map V.str) us → StrsAre us ys
  | [], [], _ => .nil
  | y :: ys, _ :: us, .cons r t => by
    obtain ⟨k, e⟩ := r
    subst e
    exact .cons y k (strs_vals t)
/-- len(set(xs)), xs a list of texts -/
def tLenSetS (K : PySem.W.Frag) (ta : TE) : TE := fun σ H Q => ta σ H fun x H1 => ∃ (l : Addr) (xs : List Str), x = .ref l ∧ SqL K H1 l (xs.map V.str) ∧ xs.length ≤ 1000 ∧ Q (.int ((distinct xs).length : Nat)) H1
theorem pe_lenSetS {X : Cx} {a : Expr} {ta : TE} {p p2 q pos : Pos} (hm : X.mg "len" = none) (hm2 : X.mg "set" = none) (ha : PE X a ta) (hg : Gl X "len" := by rfl) (hg2 : Gl X "set" := by rfl) (hc : X.calm = true := by rfl)
    (na : starEach [a] X.env = (false, eval a X.env) :: starEach [] X.env := by rfl) : PE X (.Call (.Name "len" p) [.Call (.Name "set" p2) [a] [] q] [] pos) (tLenSetS X.K ta) := by
  constructor
  intro pins s σ H Q I want
  refine Call_ (ld_blt I hg hm PySem.boot_len (PyProof.Rows.callWith_builtin1 (PyProof.Rows.args_cons ?_ rfl) rfl rfl))
  refine Call_ (ld_blt I hg2 hm2 boot_set (PyProof.Rows.callWith_type1 (PyProof.Rows.args_cons (thn (ha.run pins s σ H _ I want) ?_) na) na rfl))
  rintro v s1 ⟨x, H1, I1, r1, l, xs, rfl, sq, sz, want1⟩
  cases r1
  refine PyProof.Rows.args_nil ?_
  obtain ⟨its, rel, pl, _⟩ := I1.list sq
  refine make_set (I1.ok.hd hc) pl.isList (by simpa using strs_vals rel) (by unfold scanBound; omega) fun h' tk set kp => PyProof.Rows.args_nil ?_
  obtain ⟨o, es, ep, t, g, ex, d, _, _, _, fits, cnt⟩ := set
  have I2 : Inv X pins σ H1 { s1 with heap := h', toks := tk } := I1.kept fun b o g2 => kp b o (Heap.lt_size g2) g2
  have dl := distinct_len xs
  exact call_len_set g ex d fits (by rw [cnt]; omega) ⟨.int _, H1, I2.tok _, ⟨_, by rw [cnt]⟩, want1⟩
end Fs
namespace Fs
open PySem PySem.Spec PyProof.Rows L2
/-! ### data: what repr shows, what isinstance tells -/
structure TOk (x : Str) : Prop where
  len : x.length ≤ 9000
  cod : ∀ c ∈ cps x, c < 16 ^ 8
mutual
inductive Dx (H : Hp) : V → PyData → Prop
  | non : Dx H .non .none
  | bl (b : Bool) : Dx H (.bl b) (.bool b)
  | int (i : Int) (h1 : i.natAbs.log2 < 1920) (h2 : ((PyData.int i).shown).length ≤ 100) : Dx H (.int i) (.int i)
  | str (x : Str) (h : TOk x) : Dx H (.str x) (.str x)
  | lst {a : Addr} {xs : List V} {ds : List PyData} : H a = some (.lst xs) → a ≠ sysModules → DxAll H xs ds → Dx H (.ref a) (.list ds)
  | tup {a : Addr} {xs : List V} {ds : List PyData} : H a = some (.tup xs) → DxAll H xs ds → Dx H (.ref a) (.tuple ds)
  | dct {a : Addr} {kvs : List (Key × V)} {ds : List (PyData × PyData)} : H a = some (.dK kvs) → DxKv H kvs ds → Dx H (.ref a) (.dict ds)
inductive DxAll (H : Hp) : List V → List PyData → Prop
  | nil : DxAll H [] []
  | cons {v : V} {vs : List V} {d : PyData} {ds : List PyData} : Dx H v d → DxAll H vs ds → DxAll H (v :: vs) (d :: ds)
inductive DxKv (H : Hp) : List (Key × V) → List (PyData × PyData) → Prop
  | nil : DxKv H [] []
  | cons {x : Str} {v : V} {d : PyData} {kvs : List (Key × V)} {ds : List (PyData × PyData)} : TOk x → Dx H v d → DxKv H kvs ds → DxKv H ((.inr x, v) :: kvs) ((.str x, d) :: ds)
end
mutual
theorem Dx.le {H H' : Hp} (e : Same H H') : ∀ {v : V} {d : PyData}, Dx H v d → Dx H' v d
  | _, _, .non => .non
  | _, _, .bl b => .bl b
  | _, _, .int i h1 h2 => .int i h1 h2
  | _, _, .str x h => .str x h
  | _, _, .lst h n a => .lst (e _ _ h) n (DxAll.le e a)
  | _, _, .tup h a => .tup (e _ _ h) (DxAll.le e a)
  | _, _, .dct h a => .dct (e _ _ h) (DxKv.le e a)
theorem DxAll.le {H H' : Hp} (e : Same H H') : ∀ {vs : List V} {ds : List PyData}, DxAll H vs ds → DxAll H' vs ds
  | _, _, .nil => .nil
  | _, _, .cons h t => .cons (Dx.le e h) (DxAll.le e t)
theorem DxKv.le {H H' : Hp} (e : Same H H') : ∀ {vs : List (Key × V)} {ds : List (PyData × PyData)}, DxKv H vs ds → DxKv H' vs ds
  | _, _, .nil => .nil
  | _, _, .cons k h t => .cons k (Dx.le e h) (DxKv.le e t)
end
/-- a dict's entries, two lists of data -/
theorem DxKv.split {H : Hp} : ∀ {vs : List (Key × V)} {ds : List (PyData × PyData)}, DxKv H vs ds → DxAll H (vs.map fun p => kV p.1) (ds.map (·.1)) ∧ DxAll H (vs.map (·.2)) (ds.map (·.2))
  | _, _, .nil => ⟨.nil, .nil⟩
  | _, _, .cons k h t => ⟨.cons (.str _ k) (DxKv.split t).1, .cons h (DxKv.split t).2⟩
theorem ents {P : Program} {w : World} : ∀ {kvs : List (Key × V)} {vs : List (Key × Value)} {es : List DictEntry}, KV kvs vs → PySem.Pairs (mixKind P w) es vs → Vals (kvs.map fun p => kV p.1) (es.map (·.key)) ∧ Vals (kvs.map (·.2)) (es.map (·.val))
  | _, _, _, .nil, .nil => ⟨.nil, .nil⟩
  | (k, v) :: _, (k', u) :: _, e :: _, .cons ⟨h1, h2⟩ t, .cons g1 g2 gt => by
    obtain ⟨i1, i2⟩ := ents t gt
    have h1 : k = k' := h1
    subst h1
    have g2 : e.val = u := g2
    have h2 : RelV v u := h2
    refine ⟨.cons (show RelV (kV k) e.key from ?_) i1, .cons (show RelV v e.val by rw [g2]; exact h2) i2⟩
    rcases keyIs_shape (show keyIs k e.key = true from g1) with ⟨i, t, ek, ev⟩ | ⟨x, t, ek, ev⟩
    · rw [ek, ev]; exact ⟨t, rfl⟩
    · rw [ek, ev]; exact ⟨t, rfl⟩
theorem pairs_len {P : Program} {w : World} : ∀ {vs : List (Key × Value)} {es : List DictEntry}, PySem.Pairs (mixKind P w) es vs → True := fun _ => trivial
section
variable {X : Cx} {pins : List (Addr × Obj)} {σ : L2.St} {H : Hp} {s : Shared}
mutual
theorem Dx.reads (I : Inv X pins σ H s) : ∀ (d : PyData) (v : V) (u : Value), Dx H v d → RelV v u → ∃ as, Reads s.heap u d as ∧ sysModules ∉ as
  | .none, _, _, h, r => by
    cases h
    cases r
    exact ⟨_, Reads.none, by simp⟩
  | .bool b, _, _, h, r => by
    cases h
    cases r
    exact ⟨_, Reads.bool b, by simp⟩
  | .int i, _, _, h, r => by
    cases h
    obtain ⟨t, rfl⟩ := r
    exact ⟨_, Reads.int i t, by simp⟩
  | .str x, _, _, h, r => by
    cases h
    obtain ⟨t, rfl⟩ := r
    exact ⟨_, Reads.str x t, by simp⟩
  | .list ds, _, _, h, r => by
    cases h with
    | lst hs hn ha =>
      cases r
      obtain ⟨_, its, n, rv, e⟩ := I.hok _ _ hs
      obtain ⟨as, hr, hno⟩ := Dx.readsAll I ds _ its ha rv
      exact ⟨_, Reads.list e rfl rfl (by simpa using hr), by simp [hno, Ne.symm hn]⟩
  | .tuple ds, _, _, h, r => by
    cases h with
    | tup hs ha =>
      cases r
      obtain ⟨_, its, rv, o, ho, hc, n, hd⟩ := I.hok _ _ hs
      obtain ⟨as, hr, hno⟩ := Dx.readsAll I ds _ its ha rv
      exact ⟨_, Reads.tuple ho hc hd (by simpa using hr), hno⟩
  | .dict ds, _, _, h, r => by
    cases h with
    | dct hs ha =>
      cases r
      obtain ⟨_, hsys, vs, kv, o, es, ep, ho, ex, hd, _, prs, _⟩ := I.hok _ _ hs
      obtain ⟨k1, k2⟩ := ents kv prs
      have hn := beq_eq_false_iff_ne.mp hsys
      obtain ⟨as, h1, n1⟩ := Dx.readsK I ds _ (es.toList.map (·.key)) ha k1
      obtain ⟨bs, h2, n2⟩ := Dx.readsV I ds _ (es.toList.map (·.val)) ha k2
      exact ⟨_, Reads.dict ho ex.1 hd h1 h2, by simp [n1, n2, Ne.symm hn]⟩
theorem Dx.readsAll (I : Inv X pins σ H s) : ∀ (ds : List PyData) (vs : List V) (us : List Value), DxAll H vs ds → Vals vs us → ∃ as, ReadsAll s.heap us ds as ∧ sysModules ∉ as
  | [], _, _, h, r => by
    cases h
    cases r
    exact ⟨_, ReadsAll.nil, by simp⟩
  | d :: ds, _, _, h, r => by
    cases h with
    | cons h1 h2 =>
      cases r with
      | cons r1 r2 =>
        obtain ⟨as, q1, n1⟩ := Dx.reads I d _ _ h1 r1
        obtain ⟨bs, q2, n2⟩ := Dx.readsAll I ds _ _ h2 r2
        exact ⟨_, ReadsAll.cons q1 q2, by simp [n1, n2]⟩
theorem Dx.readsK (I : Inv X pins σ H s) : ∀ (ds : List (PyData × PyData)) (vs : List (Key × V)) (us : List Value), DxKv H vs ds → Vals (vs.map fun p => kV p.1) us → ∃ as, ReadsAll s.heap us (ds.map (·.1)) as ∧ sysModules ∉ as
  | [], _, _, h, r => by
    cases h
    cases r
    exact ⟨_, ReadsAll.nil, by simp⟩
  | (_, d) :: ds, _, _, h, r => by
    cases h with
    | cons h0 h1 h2 =>
      cases r with
      | cons r1 r2 =>
        obtain ⟨t, rfl⟩ := r1
        obtain ⟨bs, q2, n2⟩ := Dx.readsK I ds _ _ h2 r2
        exact ⟨_, ReadsAll.cons (Reads.str _ t) q2, by simp [n2]⟩
theorem Dx.readsV (I : Inv X pins σ H s) : ∀ (ds : List (PyData × PyData)) (vs : List (Key × V)) (us : List Value), DxKv H vs ds → Vals (vs.map (·.2)) us → ∃ as, ReadsAll s.heap us (ds.map (·.2)) as ∧ sysModules ∉ as
  | [], _, _, h, r => by
    cases h
    cases r
    exact ⟨_, ReadsAll.nil, by simp⟩
  | (_, d) :: ds, _, _, h, r => by
    cases h with
    | cons h0 h1 h2 =>
      cases r with
      | cons r1 r2 =>
        obtain ⟨as, q1, n1⟩ := Dx.reads I d _ _ h1 r1
        obtain ⟨bs, q2, n2⟩ := Dx.readsV I ds _ _ h2 r2
        exact ⟨_, ReadsAll.cons q1 q2, by simp [n1, n2]⟩
end
end
mutual
theorem Dx.short {H : Hp} : ∀ {v : V} {d : PyData}, Dx H v d → d.leavesShort 100 = true ∧ d.showable = true
  | _, _, .non => ⟨rfl, rfl⟩
  | _, _, .bl b => ⟨rfl, rfl⟩
  | _, _, .int i h1 h2 => ⟨by simpa only [PyData.leavesShort, decide_eq_true_eq] using h2, by simpa only [PyData.showable, decide_eq_true_eq] using h1⟩
  | _, _, .str x h => ⟨by simpa only [PyData.leavesShort, List.all_eq_true, decide_eq_true_eq] using h.cod, rfl⟩
  | _, _, .lst h n a => by
    obtain ⟨i1, i2⟩ := DxAll.short a
    exact ⟨by simpa only [PyData.leavesShort] using i1, by simpa only [PyData.showable] using i2⟩
  | _, _, .tup h a => by
    obtain ⟨i1, i2⟩ := DxAll.short a
    exact ⟨by simpa only [PyData.leavesShort] using i1, by simpa only [PyData.showable] using i2⟩
  | _, _, .dct h a => by
    obtain ⟨i1, i2⟩ := DxKv.short a
    exact ⟨by simpa only [PyData.leavesShort] using i1, by simpa only [PyData.showable] using i2⟩
theorem DxAll.short {H : Hp} : ∀ {vs : List V} {ds : List PyData}, DxAll H vs ds → PyData.leavesShortAll 100 ds = true ∧ PyData.showableAll ds = true
  | _, _, .nil => ⟨rfl, rfl⟩
  | _, _, .cons h t => by
    obtain ⟨i1, i2⟩ := Dx.short h
    obtain ⟨j1, j2⟩ := DxAll.short t
    exact ⟨by simp only [PyData.leavesShortAll, i1, j1, Bool.and_self], by simp only [PyData.showableAll, i2, j2, Bool.and_self]⟩
theorem DxKv.short {H : Hp} : ∀ {vs : List (Key × V)} {ds : List (PyData × PyData)}, DxKv H vs ds → PyData.leavesShortKv 100 ds = true ∧ PyData.showableKv ds = true
  | _, _, .nil => ⟨rfl, rfl⟩
  | _, _, .cons (x := x) k h t => by
    obtain ⟨i1, i2⟩ := Dx.short h
    obtain ⟨j1, j2⟩ := DxKv.short t
    have k1 : PyData.leavesShort 100 (.str x) = true := by simpa only [PyData.leavesShort, List.all_eq_true, decide_eq_true_eq] using k.cod
    exact ⟨by simp only [PyData.leavesShortKv, k1, i1, j1, Bool.and_self], by simp only [PyData.showableKv, PyData.showable, i2, j2, Bool.and_self]⟩
end
/-- small data -/
structure Fit (n m : Nat) (d : PyData) : Prop where
  we : d.weight ≤ n
  de : d.depth ≤ m
section
variable {X : Cx} {k : Nat}
/-- repr of data in a list, a tuple, a dict -/
def rReprD : List V → Hp → VK → Prop := fun xs H Q => ∃ (a : Addr) (d : PyData), xs = [.ref a] ∧ Dx H (.ref a) d ∧ Fit 100000 30 d ∧ Q (.str d.shown) H
theorem call_reprD (hr : Rm k X.A) : CallR X (.builtin "repr") rReprD := by
  intro pins s σ H xs us Q I rel h
  obtain ⟨a, d, rfl, hd, ft, q⟩ := h
  obtain ⟨u, rfl, rx⟩ := vals1 rel
  cases rx
  obtain ⟨as, r, hno⟩ := Dx.reads I d _ _ hd rfl
  obtain ⟨h1, h2⟩ := hd.short
  have h3 := PyData.shown_le 100 (by decide) d h1
  have h4 := ft.we
  have h5 := ft.de
  have h6 := hr.rm.units
  exact repr_of_reads' r h2 (fun _ => hno) hr.gd (by omega) (fun _ _ e => e) (fun h' u tk hk => ⟨.str d.shown, H, I.kept hk, ⟨u, rfl⟩, q⟩) (by rw [sizeLine_eq]; omega)
/-- [e, ..], a list that is none of the module table -/
def tLstN (t : TA) : TE := fun σ H Q => t σ H fun xs H1 => xs.length ≤ sizeLine ∧ ∀ p, H1 p = none → p ≠ sysModules → Q (.ref p) (upd H1 p (.lst xs))
theorem pe_lstN {es : List Expr} {t : TA} {pos : Pos} (h : PA X es t) : PE X (.List es pos) (tLstN t) := by
  refine ⟨fun pins s σ H Q I hq => ?_⟩
  refine wpAny_List_spliced (thn (h.run pos pins s σ H _ I hq) fun us s1 ⟨xs, H1, I1, r, z, q⟩ => ⟨by rw [← r.length]; exact z, ?_⟩)
  have hf : H1 s1.heap.objs.size = none := I1.hok.fresh (Nat.le_refl _)
  refine ⟨.ref s1.heap.objs.size, upd H1 s1.heap.objs.size (.lst xs), I1.laid (t' := s1.toks) (fun b u e => Heap.get?_push_of_some _ e) (Nat.le_refl _) ?_, rfl, q _ hf (Nat.ne_of_gt I1.big)⟩
  exact ⟨z, us, 0, r, Heap.get?_push_size _ rfl⟩
end
end Fs
namespace Fs
open PySem PySem.Spec PyProof.Rows L2
def qInS : R2 := fun x y H Q => ∃ (c : Nat) (z : Str), x = .str ⟨#[c]⟩ ∧ y = .str z ∧ Q (.bl (decide (c ∈ z.cps.toList))) H
def qLtS : R2 := fun x y H Q => ∃ i j, x = .str i ∧ y = .str j ∧ Q (.bl (decide (i.cps.toList < j.cps.toList))) H
def qFind : V → List V → Hp → VK → Prop := fun x xs H Q => ∃ a b, x = .str a ∧ xs = [.str b] ∧ Q (.int (Txt.find a b)) H
/-! ### what is a name, signs, a part, streams -/
def isStrD : PyData → Bool
  | .str _ => true
  | _ => false
def isTupD : PyData → Bool
  | .tuple _ => true
  | _ => false
def isNameD : PyData → Bool
  | .str x => nameL (cps x)
  | _ => false
def isSignsD : PyData → Bool
  | .str x => signsL (cps x)
  | _ => false
def isPartD : PyData → Bool
  | .tuple [a, b] => isNameD a && isSignsD b
  | _ => false
def arePartsD (least : Nat) : PyData → Bool
  | .tuple ds => decide (least ≤ ds.length) && decide (ds.length ≤ 3) && ds.all isPartD
  | _ => false
def nameOf : PyData → Str
  | .tuple (.str x :: _) => x
  | _ => ""
def namesD : PyData → List Str
  | .tuple ds => ds.map nameOf
  | _ => []
def areStreamsD (a b : PyData) : Bool := arePartsD 1 a && arePartsD 0 b && decide ((namesD a ++ namesD b).Nodup)
/-- a judge of one value -/
def spIs (f : PyData → Bool) : Sp := fun vs H Q _ => ∃ (v : V) (d : PyData), vs = [v] ∧ Dx H v d ∧ ∀ H', Same H H' → Q (.bl (f d)) H'
section
variable {K : PySem.W.Frag} {H : Hp} {v : V} {d : PyData} {Q : VK}
theorem tyx_of (h : Dx H v d) : ∃ n : String, TyX K H v (.type n) ∧ kitB n "str" = some (isStrD d) ∧ kitB n "tuple" = some (isTupD d) := by
  cases h with
  | non => exact ⟨"NoneType", .base .non, (by decide +kernel : kitB "NoneType" "str" = some false), (by decide +kernel : kitB "NoneType" "tuple" = some false)⟩
  | bl b => exact ⟨"bool", .base (.bl b), (by decide +kernel : kitB "bool" "str" = some false), (by decide +kernel : kitB "bool" "tuple" = some false)⟩
  | int i _ _ => exact ⟨"int", .base (.int i), (by decide +kernel : kitB "int" "str" = some false), (by decide +kernel : kitB "int" "tuple" = some false)⟩
  | str x _ => exact ⟨"str", .base (.str x), (by decide +kernel : kitB "str" "str" = some true), (by decide +kernel : kitB "str" "tuple" = some false)⟩
  | lst e _ _ => exact ⟨"list", .base (.lst e), (by decide +kernel : kitB "list" "str" = some false), (by decide +kernel : kitB "list" "tuple" = some false)⟩
  | tup e _ => exact ⟨"tuple", .base (.tup e), (by decide +kernel : kitB "tuple" "str" = some false), (by decide +kernel : kitB "tuple" "tuple" = some true)⟩
  | dct e _ => exact ⟨"dict", .base (.dK e), (by decide +kernel : kitB "dict" "str" = some false), (by decide +kernel : kitB "dict" "tuple" = some false)⟩
end
def LET : Str := "abcdefghijklmnopqrstuvwxyz"
theorem in_let (c : Nat) : decide (c ∈ cps LET) = (decide (97 ≤ c) && decide (c ≤ 122)) := by
  by_cases h : c < 128
  · have : ∀ c : Nat, c < 128 → decide (c ∈ cps LET) = (decide (97 ≤ c) && decide (c ≤ 122)) := by decide +kernel
    exact this c h
  · have h1 : ¬ c ≤ 122 := by omega
    have h2 : ∀ x ∈ cps LET, x ≤ 122 := by decide +kernel
    rw [decide_eq_false h1, decide_eq_false (fun m => h1 (h2 c m)), Bool.and_false]
theorem all_let (l : List Nat) : (l.map fun c => decide (c ∈ cps LET)).all id = lowL l := by
  rw [List.all_map]
  unfold lowL
  congr 1
  funext c
  exact in_let c
/-- constants of the module -/
structure Gs (mg : Str → Option Value) : Prop where
  g_LETTERS : ∃ t, mg "LETTERS" = some (.str "abcdefghijklmnopqrstuvwxyz" t)
  g_END : ∃ t, mg "END" = some (.str "end" t)
  g_MAX_NAME : ∃ t, mg "MAX_NAME" = some (.int 8 t)
  g_MAX_SIGNS : ∃ t, mg "MAX_SIGNS" = some (.int 4 t)
  g_MAX_STREAMS : ∃ t, mg "MAX_STREAMS" = some (.int 3 t)
section
variable {X : Cx} {x : Str} {pos : Pos}
theorem pe_gstr {z : Str} (h : ∃ t, X.mg x = some (.str z t)) (hg : Gl X x := by rfl) (hd : (x == ("__debug__" : Str)) = false := by decide) : PE X (.Name x pos) (tC (.str z)) := by
  obtain ⟨t, h⟩ := h
  exact pe_glob hg h ⟨t, rfl⟩ hd
theorem pe_gint {z : Int} (h : ∃ t, X.mg x = some (.int z t)) (hg : Gl X x := by rfl) (hd : (x == ("__debug__" : Str)) = false := by decide) : PE X (.Name x pos) (tC (.int z)) := by
  obtain ⟨t, h⟩ := h
  exact pe_glob hg h ⟨t, rfl⟩ hd
end
section
variable {P : Program} {w : World} {K : PySem.W.Frag} {mg : Str → Option Value} {base : Heap}
theorem take_snoc {α : Type} {l : List α} {i : Nat} {x : α} (h : l[i]? = some x) : l.take (i + 1) = l.take i ++ [x] := by rw [List.take_add_one, h]; rfl
abbrev s_p_name : Stmt := top 13
theorem sc_p_name : FnScope ["value", "letter"] ["value"] (defScope s_p_name) := ⟨rfl, rfl, rfl, by decide +kernel, rfl, by decide +kernel, by decide +kernel⟩
theorem cal_p_name (T : Bs mg) (G : Gs mg) (D : Df K mg "is_name" s_p_name ["value"]) : Cal P w K mg base 1 "is_name" (spIs isNameD) := by
  refine D.cal sc_p_name (fun vs H Q E h => ?_) (fun f cdv A outer s H vs Q E hr h => ?_)
  · obtain ⟨v, d, rfl, _⟩ := h
    rfl
  · obtain ⟨v, d, rfl, hd, k⟩ := h
    refine ⟨_, pss_cons (ps_if (PW.pt (pw_or (pt_not (pt_val (pb call_isi T.z_isinstance (pa_cons (pv 0) (pa_cons (pe_bltn (v := .ty "str") (u := .type "str") rfl T.z_str (by decide +kernel) rfl) pa_nil))))) (pw_or (pt_not (pt_chain op_le op_le pe_int (pb call_len3 T.z_len (pa_cons (pv 0) pa_nil)) (pe_gint G.g_MAX_NAME))) (pw_or1 (pt_cmpR op_eq (pv 0) (pe_gstr G.g_END) (nomark _))))))
        (pss_one (ps_ret pe_bl))
        pss_nil)
      (pss_one (ps_ret (pb (cr_all rfl) T.z_all (pa_cons (pe_lc (own := [("letter", 1)]) (te := (tOp qInS (tVar 1) (tC (.str "abcdefghijklmnopqrstuvwxyz")))) rfl sc_p_name.nd (pi_str (pv 0)) (blkOk_by (N := ["value", "letter"]) (sc := defScope s_p_name) (by decide +kernel)) (fun _ _ _ _ _ => (pg_name (i := 1) sc_p_name.nd rfl (Or.inl rfl))) (fun _ _ _ _ _ => pts_nil) (fun _ _ _ _ _ => (pe_cmpR op_in_sign (pv 1) (pe_gstr G.g_LETTERS) (by rfl)))) pa_nil)))), ?_⟩
    obtain ⟨n, ty, h1, h2⟩ := tyx_of (K := K) hd
    refine ⟨_, rfl, v, .ty "str", _, _, _, rfl, .ty "str", ty, kit_ty h1, _, rfl, ?_⟩
    cases hd with
    | str z hz =>
      refine iteF ?_
      have hl : z.length ≤ 100000 := by have := hz.len; omega
      have hlen : ((cps z).map S1).length = z.length := by rw [List.length_map, ← len_cps]
      refine ⟨_, rfl, _, _, rfl, Of3.str hl, _, _, rfl, rfl, _, rfl, ?_⟩
      rw [hlen]
      have bad : ∀ H', Same H H' → nameL (cps z) = false → Q (.bl false) H' := fun H' e q => by
        have := k H' e
        rw [show isNameD (.str z) = nameL (cps z) from rfl, q] at this
        exact this
      have nl : nameL (cps z) = (decide (1 ≤ z.length) && decide (z.length ≤ 8) && lowL (cps z) && !decide (cps z = [101, 110, 100])) := by unfold nameL; rw [len_cps]
      refine ite2 (fun c1 => ?_) (fun c1 => ?_)
      · have c1 : (1 : Int) ≤ z.length := of_decide_eq_true c1
        refine ⟨_, _, rfl, rfl, _, rfl, ?_⟩
        refine ite2 (fun c2 => ?_) (fun c2 => ?_)
        · have c2 : ¬ (z.length : Int) ≤ 8 := by simpa using c2
          refine iteT ?_
          exact bad H (Same.refl H) (by rw [nl, decide_eq_false (show ¬ z.length ≤ 8 by omega)]; simp)
        · have c2 : (z.length : Int) ≤ 8 := by simpa using c2
          refine ⟨_, rfl, rfl, _, rfl, ?_⟩
          refine ite2 (fun c3 => ?_) (fun c3 => ?_)
          · have c3 : V.str z = V.str "end" := of_decide_eq_true c3
            injection c3 with c3
            subst c3
            exact bad H (Same.refl H) (by decide +kernel)
          · have c3 : ¬ V.str z = V.str "end" := fun q => c3 (decide_eq_true q)
            refine ⟨_, rfl, z, rfl, fun D hD => ?_⟩
            refine lc_it walk_str (fun i H1 => Same H H1 ∧ H1 D = some (.lst (((cps z).take i).map fun c => V.bl (decide (c ∈ cps LET))))) ?_ ?_ ?_ ?_
            · exact ⟨same_upd (Same.refl H) hD, upd_same⟩
            · exact fun _ _ _ _ => trivial
            · rintro i x H1 H2 hi ⟨e1, e2⟩ ⟨rfl, c, hc, rfl⟩
              have hc' : (cps z)[i]? = some c := by rw [← Array.getElem?_toList] at hc; exact hc
              refine ⟨rfl, _, rfl, c, LET, rfl, rfl, _, e2, ?_, same_mut e1 hD, ?_⟩
              · have h8 : i < z.length := hi
                have h9 : ((cps z).take i).length ≤ i := List.length_take_le ..
                rw [List.length_map, sizeLine_eq]; omega
              · rw [upd_same, take_snoc hc', List.map_append]; rfl
            · rintro H1 ⟨e1, e2⟩
              refine ⟨D, (cps z).map fun c => decide (c ∈ cps LET), rfl, SqL.of ?_, ?_⟩
              · rw [e2, List.take_of_length_le (by rw [← len_cps]; exact Nat.le_refl _), List.map_map]; rfl
              · rw [all_let]
                have := k H1 e1
                have e : isNameD (.str z) = lowL (cps z) := by
                  show nameL (cps z) = _
                  rw [nl, decide_eq_true (show 1 ≤ z.length by omega), decide_eq_true (show z.length ≤ 8 by omega), decide_eq_false (show ¬ cps z = [101, 110, 100] from fun q => c3 (congrArg V.str (cps_inj (q.trans (by decide +kernel)))))]
                  simp
                rw [e] at this
                exact this
      · have c1 : ¬ (1 : Int) ≤ z.length := fun q => c1 (decide_eq_true q)
        refine ⟨_, rfl, iteT (iteT ?_)⟩
        exact bad H (Same.refl H) (by rw [nl, decide_eq_false (show ¬ 1 ≤ z.length by omega)]; simp)
    | _ => exact iteT (k _ (Same.refl H))
end
end Fs
namespace Fs
open PySem PySem.Spec PyProof.Rows L2
theorem lt_S1 (c d : Nat) : decide ((⟨#[c]⟩ : Str).cps.toList < (⟨#[d]⟩ : Str).cps.toList) = decide (c < d) := by
  show decide (([c] : List Nat) < [d]) = _
  simp [List.cons_lt_cons_iff]
theorem asc_zip : ∀ l : List Nat, ((l.zip (l.drop 1)).map fun p => decide (p.1 < p.2)).all id = ascL l
  | [] => rfl
  | [_] => rfl
  | a :: b :: r => by
    have := asc_zip (b :: r)
    show (decide (a < b) && (((b :: r).zip r).map fun p => decide (p.1 < p.2)).all id) = (decide (a < b) && ascL (b :: r))
    rw [← this]; rfl
theorem cps_cut1 (z : Str) : cps (cutS z (some 1) none) = (cps z).drop 1 := by
  show (((z.cps.toList.drop (HT.sIx z.length 0 (some 1))).take (HT.sIx z.length z.length none - HT.sIx z.length 0 (some 1))).toArray).toList = z.cps.toList.drop 1
  have e1 : HT.sIx z.length 0 (some 1) = min 1 z.length := HT.sIx_nat z.length 0 1
  have e2 : HT.sIx z.length z.length none = z.length := HT.sIx_none ..
  rw [e1, e2]
  have e3 : z.length = z.cps.toList.length := len_cps z
  by_cases c : 1 ≤ z.length
  · rw [Nat.min_eq_left c]
    show (((z.cps.toList.drop 1).take (z.length - 1)) : List Nat) = _
    rw [List.take_of_length_le (by rw [List.length_drop, ← e3]; exact Nat.le_refl _)]
  · have : z.cps.toList = [] := List.eq_nil_of_length_eq_zero (by omega)
    rw [this]; simp
section
variable {P : Program} {w : World} {K : PySem.W.Frag} {mg : Str → Option Value} {base : Heap}
abbrev s_p_signs : Stmt := top 14
theorem sc_p_signs : FnScope ["value", "sign", "one", "other"] ["value"] (defScope s_p_signs) := ⟨rfl, rfl, rfl, by decide +kernel, rfl, by decide +kernel, by decide +kernel⟩
theorem cal_p_signs (T : Bs mg) (G : Gs mg) (D : Df K mg "is_signs" s_p_signs ["value"]) : Cal P w K mg base 1 "is_signs" (spIs isSignsD) := by
  refine D.cal sc_p_signs (fun vs H Q E h => ?_) (fun f cdv A outer s H vs Q E hr h => ?_)
  · obtain ⟨v, d, rfl, _⟩ := h
    rfl
  · obtain ⟨v, d, rfl, hd, k⟩ := h
    refine ⟨_, pss_cons (ps_if (PW.pt (pw_or (pt_not (pt_val (pb call_isi T.z_isinstance (pa_cons (pv 0) (pa_cons (pe_bltn (v := .ty "str") (u := .type "str") rfl T.z_str (by decide +kernel) rfl) pa_nil))))) (pw_or (pt_not (pt_chain op_le op_le pe_int (pb call_len3 T.z_len (pa_cons (pv 0) pa_nil)) (pe_gint G.g_MAX_SIGNS))) (pw_or1 (pt_not (pt_val (pb (cr_all rfl) T.z_all (pa_cons (pe_lc (own := [("sign", 1)]) (te := (tOp qInS (tVar 1) (tC (.str "abcdefghijklmnopqrstuvwxyz")))) rfl sc_p_signs.nd (pi_str (pv 0)) (blkOk_by (N := ["value", "sign", "one", "other"]) (sc := defScope s_p_signs) (by decide +kernel)) (fun _ _ _ _ _ => (pg_name (i := 1) sc_p_signs.nd rfl (Or.inl rfl))) (fun _ _ _ _ _ => pts_nil) (fun _ _ _ _ _ => (pe_cmpR op_in_sign (pv 1) (pe_gstr G.g_LETTERS) (by rfl)))) pa_nil))))))))
        (pss_one (ps_ret pe_bl))
        pss_nil)
      (pss_one (ps_ret (pb (cr_all rfl) T.z_all (pa_cons (pe_lc (own := [("one", 2), ("other", 3)]) (te := (tOp qLtS (tVar 2) (tVar 3))) (g := gTup K 2 (gCons (gName 2) (gCons (gName 3) gNil))) rfl sc_p_signs.nd (pi_zipS T.z_zip (pa_cons (pv 0) (pa_cons (pe_slice sl_str (pv 0) (po_some pe_int) po_none) pa_nil))) (blkOk_by (N := ["value", "sign", "one", "other"]) (sc := defScope s_p_signs) (by decide +kernel)) (fun _ _ _ _ _ => (pg_tup rfl (pgs_cons (pg_name (i := 2) sc_p_signs.nd rfl (Or.inl rfl)) (pgs_cons (pg_name (i := 3) sc_p_signs.nd rfl (Or.inl rfl)) pgs_nil)))) (fun _ _ _ _ _ => pts_nil) (fun _ _ _ _ _ => (pe_cmpR op_lt_str (pv 2) (pv 3) (nomark _)))) pa_nil)))), ?_⟩
    obtain ⟨n, ty, h1, h2⟩ := tyx_of (K := K) hd
    refine ⟨_, rfl, v, .ty "str", _, _, _, rfl, .ty "str", ty, kit_ty h1, _, rfl, ?_⟩
    cases hd with
    | str z hz =>
      refine iteF ?_
      have hl : z.length ≤ 100000 := by have := hz.len; omega
      have hlen : ((cps z).map S1).length = z.length := by rw [List.length_map, ← len_cps]
      refine ⟨_, rfl, _, _, rfl, Of3.str hl, _, _, rfl, rfl, _, rfl, ?_⟩
      rw [hlen]
      have bad : ∀ H', Same H H' → signsL (cps z) = false → Q (.bl false) H' := fun H' e q => by
        have := k H' e
        rw [show isSignsD (.str z) = signsL (cps z) from rfl, q] at this
        exact this
      have nl : signsL (cps z) = (decide (1 ≤ z.length) && decide (z.length ≤ 4) && lowL (cps z) && ascL (cps z)) := by unfold signsL; rw [len_cps]
      refine ite2 (fun c1 => ?_) (fun c1 => ?_)
      · have c1 : (1 : Int) ≤ z.length := of_decide_eq_true c1
        refine ⟨_, _, rfl, rfl, _, rfl, ?_⟩
        refine ite2 (fun c2 => ?_) (fun c2 => ?_)
        · have c2 : ¬ (z.length : Int) ≤ 4 := by simpa using c2
          refine iteT ?_
          exact bad H (Same.refl H) (by rw [nl, decide_eq_false (show ¬ z.length ≤ 4 by omega)]; simp)
        · have c2 : (z.length : Int) ≤ 4 := by simpa using c2
          refine ⟨_, rfl, z, rfl, fun D hD => ?_⟩
          refine lc_it walk_str (fun i H1 => Same H H1 ∧ H1 D = some (.lst (((cps z).take i).map fun c => V.bl (decide (c ∈ cps LET))))) ?_ ?_ ?_ ?_
          · exact ⟨same_upd (Same.refl H) hD, upd_same⟩
          · exact fun _ _ _ _ => trivial
          · rintro i x H1 H2 hi ⟨e1, e2⟩ ⟨rfl, c, hc, rfl⟩
            have hc' : (cps z)[i]? = some c := by rw [← Array.getElem?_toList] at hc; exact hc
            refine ⟨rfl, _, rfl, c, LET, rfl, rfl, _, e2, ?_, same_mut e1 hD, ?_⟩
            · have h8 : i < z.length := hi
              have h9 : ((cps z).take i).length ≤ i := List.length_take_le ..
              rw [List.length_map, sizeLine_eq]; omega
            · rw [upd_same, take_snoc hc', List.map_append]; rfl
          · rintro H1 ⟨e1, e2⟩
            refine ⟨D, (cps z).map fun c => decide (c ∈ cps LET), rfl, SqL.of ?_, _, rfl, ?_⟩
            · rw [e2, List.take_of_length_le (by rw [← len_cps]; exact Nat.le_refl _), List.map_map]; rfl
            · rw [all_let]
              refine ite2 (fun c3 => ?_) (fun c3 => ?_)
              · have c3 : lowL (cps z) = false := by simpa using c3
                exact bad H1 e1 (by rw [nl, c3]; simp)
              · have c3 : lowL (cps z) = true := by simpa using c3
                refine ⟨_, rfl, _, rfl, _, rfl, z, rfl, by rw [sizeLine_eq]; omega, _, _, rfl, fun D2 hD2 => ?_⟩
                have hcut := cps_cut1 z
                generalize cutS z (some 1) none = z1 at hcut
                have hl1 : z1.length = z.length - 1 := by rw [len_cps, len_cps, hcut, List.length_drop]
                refine lc_it (walk_zipS (n := z.length - 1) (by show _ = min z.length z1.length; omega)) (fun i H2 => Same H H2 ∧ H2 D2 = some (.lst ((((cps z).zip ((cps z).drop 1)).take i).map fun p => V.bl (decide (p.1 < p.2))))) ?_ ?_ ?_ ?_
                · exact ⟨same_upd e1 hD2, upd_same⟩
                · exact fun _ _ _ _ => trivial
                · rintro i x H2 H3 hi ⟨g1, g2⟩ ⟨t, c, d, rfl, ht, rfl, hc, hd⟩
                  have hc' : (cps z)[i]? = some c := by rw [← Array.getElem?_toList] at hc; exact hc
                  have hd' : ((cps z).drop 1)[i]? = some d := by rw [← Array.getElem?_toList] at hd; rw [← hcut]; exact hd
                  have hcd : ((cps z).zip ((cps z).drop 1))[i]? = some (c, d) := List.getElem?_zip_eq_some.mpr ⟨hc', hd'⟩
                  have hD2t : D2 ≠ t := ne_of_none g2 ht
                  refine ⟨t, _, rfl, SqT.of upd_same, rfl, _, _, rfl, _, _, rfl, rfl, ?_⟩
                  refine ⟨rfl, _, rfl, _, rfl, ⟨#[c]⟩, ⟨#[d]⟩, rfl, rfl, _, by rw [upd_ne hD2t]; exact g2, ?_, same_mut (same_upd g1 ht) (e1.free hD2), ?_⟩
                  · have h9 : (((cps z).zip ((cps z).drop 1)).take i).length ≤ i := List.length_take_le ..
                    rw [List.length_map, sizeLine_eq]; omega
                  · rw [upd_same, take_snoc hcd, List.map_append, lt_S1]; rfl
                · rintro H2 ⟨g1, g2⟩
                  refine ⟨D2, ((cps z).zip ((cps z).drop 1)).map fun p => decide (p.1 < p.2), rfl, SqL.of ?_, ?_⟩
                  · rw [g2, List.take_of_length_le (by rw [List.length_zip, List.length_drop, ← len_cps]; omega), List.map_map]; rfl
                  · rw [asc_zip]
                    have := k H2 g1
                    have e : isSignsD (.str z) = ascL (cps z) := by
                      show signsL (cps z) = _
                      rw [nl, decide_eq_true (show 1 ≤ z.length by omega), decide_eq_true (show z.length ≤ 4 by omega), c3]
                      simp
                    rw [e] at this
                    exact this
      · have c1 : ¬ (1 : Int) ≤ z.length := fun q => c1 (decide_eq_true q)
        refine ⟨_, rfl, iteT (iteT ?_)⟩
        exact bad H (Same.refl H) (by rw [nl, decide_eq_false (show ¬ 1 ≤ z.length by omega)]; simp)
    | _ => exact iteT (k _ (Same.refl H))
end
end Fs
namespace Fs
open PySem PySem.Spec PyProof.Rows L2
theorem DxAll.length {H : Hp} : ∀ {vs : List V} {ds : List PyData}, DxAll H vs ds → vs.length = ds.length
  | _, _, .nil => rfl
  | _, _, .cons h t => congrArg (· + 1) (DxAll.length t)
theorem DxAll.get {H : Hp} : ∀ {vs : List V} {ds : List PyData} {i : Nat} {v : V}, DxAll H vs ds → vs[i]? = some v → ∃ d, ds[i]? = some d ∧ Dx H v d
  | _, _, i, v, .nil, h => by simp at h
  | _, _, 0, v, .cons (d := d) h t, e => by
    simp only [List.getElem?_cons_zero, Option.some.injEq] at e
    subst e
    exact ⟨d, rfl, h⟩
  | _, _, i + 1, v, .cons h t, e => by
    simp only [List.getElem?_cons_succ] at e ⊢
    exact DxAll.get t e
theorem DxAll.append {H : Hp} : ∀ {vs ws : List V} {ds es : List PyData}, DxAll H vs ds → DxAll H ws es → DxAll H (vs ++ ws) (ds ++ es)
  | _, _, _, _, .nil, h => h
  | _, _, _, _, .cons h t, g => .cons h (DxAll.append t g)
theorem DxAll.two {H : Hp} {vs : List V} {ds : List PyData} (h : DxAll H vs ds) (l : vs.length = 2) : ∃ x y a b, vs = [x, y] ∧ ds = [a, b] ∧ Dx H x a ∧ Dx H y b := by
  cases h with
  | nil => cases l
  | cons h1 t =>
    cases t with
    | nil => cases l
    | cons h2 t =>
      cases t with
      | nil => exact ⟨_, _, _, _, rfl, rfl, h1, h2⟩
      | cons _ _ => simp at l
section
variable {P : Program} {w : World} {K : PySem.W.Frag} {mg : Str → Option Value} {base : Heap}
abbrev s_p_part : Stmt := top 17
theorem sc_p_part : FnScope ["value"] ["value"] (defScope s_p_part) := ⟨rfl, rfl, rfl, by decide +kernel, rfl, by decide +kernel, by decide +kernel⟩
theorem cal_p_part (T : Bs mg) (D : Df K mg "is_part" s_p_part ["value"]) (C_p_name : Cal P w K mg base 1 "is_name" (spIs isNameD)) (C_p_signs : Cal P w K mg base 1 "is_signs" (spIs isSignsD)) : Cal P w K mg base 2 "is_part" (spIs isPartD) := by
  refine D.cal sc_p_part (fun vs H Q E h => ?_) (fun f cdv A outer s H vs Q E hr h => ?_)
  · obtain ⟨v, d, rfl, _⟩ := h
    rfl
  · obtain ⟨v, d, rfl, hd, k⟩ := h
    refine ⟨_, pss_one (ps_ret (pe_and (pb call_isi T.z_isinstance (pa_cons (pv 0) (pa_cons (pe_bltn (v := .ty "tuple") (u := .type "tuple") rfl T.z_tuple (by decide +kernel) rfl) pa_nil))) (pe_and (pe_cmpR op_eq (pb call_len3 T.z_len (pa_cons (pv 0) pa_nil)) pe_int (nomark _)) (pe_and (pc C_p_name hr (pa_cons (pe_ix ix_tup (pv 0) pe_int (fun _ _ => rfl)) pa_nil)) (pe_one (pc C_p_signs hr (pa_cons (pe_ix ix_tup (pv 0) pe_int (fun _ _ => rfl)) pa_nil))))))), ?_⟩
    obtain ⟨n, ty, h1, h2⟩ := tyx_of (K := K) hd
    refine ⟨_, rfl, v, .ty "tuple", _, _, _, rfl, .ty "tuple", ty, kit_ty h2, _, rfl, ?_⟩
    cases hd with
    | @tup a xs ds e ha =>
      refine iteT ?_
      refine ⟨_, rfl, _, _, rfl, Of3.tup e, rfl, _, rfl, ?_⟩
      refine ite2 (fun c => ?_) (fun c => ?_)
      · have c : V.int (xs.length : Int) = V.int 2 := of_decide_eq_true c
        injection c with c
        obtain ⟨x, y, dx, dy, rfl, rfl, hx, hy⟩ := ha.two (by omega)
        refine ⟨_, rfl, a, _, 0, x, rfl, rfl, SqT.of e, rfl, x, dx, rfl, hx, fun H1 e1 => ⟨_, rfl, ?_⟩⟩
        cases c1 : isNameD dx with
        | false =>
          refine iteF ?_
          have := k H1 e1
          rw [show isPartD (.tuple [dx, dy]) = (isNameD dx && isSignsD dy) from rfl, c1] at this
          exact this
        | true =>
          refine iteT ?_
          refine ⟨_, rfl, a, _, 1, y, rfl, rfl, SqT.of (e1 _ _ e), rfl, y, dy, rfl, hy.le e1, fun H2 e2 => ?_⟩
          have := k H2 (e1.trans e2)
          rw [show isPartD (.tuple [dx, dy]) = (isNameD dx && isSignsD dy) from rfl, c1] at this
          exact this
      · have c : ¬ xs.length = 2 := fun q => c (decide_eq_true (by rw [q]; rfl))
        have := k H (Same.refl H)
        rw [ha.length] at c
        have q : isPartD (.tuple ds) = false := by
          match ds, c with
          | [], _ => rfl
          | [_], _ => rfl
          | [_, _], c => exact (c rfl).elim
          | _ :: _ :: _ :: _, _ => rfl
        rw [q] at this
        exact this
    | _ => exact iteF (k _ (Same.refl H))
/-- a judge of parts -/
def spAre : Sp := fun vs H Q _ => ∃ (v : V) (d : PyData) (n : Nat), vs = [v, .int n] ∧ Dx H v d ∧ ∀ H', Same H H' → Q (.bl (arePartsD n d)) H'
abbrev s_p_parts : Stmt := top 18
theorem sc_p_parts : FnScope ["value", "least", "part"] ["value", "least"] (defScope s_p_parts) := ⟨rfl, rfl, rfl, by decide +kernel, rfl, by decide +kernel, by decide +kernel⟩
theorem cal_p_parts (T : Bs mg) (G : Gs mg) (D : Df K mg "are_parts" s_p_parts ["value", "least"]) (C_p_part : Cal P w K mg base 2 "is_part" (spIs isPartD)) : Cal P w K mg base 3 "are_parts" spAre := by
  refine D.cal sc_p_parts (fun vs H Q E h => ?_) (fun f cdv A outer s H vs Q E hr h => ?_)
  · obtain ⟨v, d, n, rfl, _⟩ := h
    rfl
  · obtain ⟨v, d, n, rfl, hd, k⟩ := h
    refine ⟨_, pss_one (ps_ret (pe_and (pb call_isi T.z_isinstance (pa_cons (pv 0) (pa_cons (pe_bltn (v := .ty "tuple") (u := .type "tuple") rfl T.z_tuple (by decide +kernel) rfl) pa_nil))) (pe_and (pe_chain op_le op_le (pv 1) (pb call_len3 T.z_len (pa_cons (pv 0) pa_nil)) (pe_gint G.g_MAX_STREAMS)) (pe_one (pb (cr_all rfl) T.z_all (pa_cons (pe_lc (own := [("part", 2)]) (te := (tCallS (spIs isPartD) (fun _ => E0) (tCons (tVar 2) tNil))) rfl sc_p_parts.nd (pi_tup (pv 0)) (blkOk_by (N := ["value", "least", "part"]) (sc := defScope s_p_parts) (by decide +kernel)) (fun _ _ _ _ _ => (pg_name (i := 2) sc_p_parts.nd rfl (Or.inl rfl))) (fun _ _ _ _ _ => pts_nil) (fun _ _ _ _ _ => (pc C_p_part hr (pa_cons (pv 2) pa_nil)))) pa_nil)))))), ?_⟩
    obtain ⟨nn, ty, h1, h2⟩ := tyx_of (K := K) hd
    refine ⟨_, rfl, v, .ty "tuple", _, _, _, rfl, .ty "tuple", ty, kit_ty h2, _, rfl, ?_⟩
    cases hd with
    | @tup a xs ds e ha =>
      refine iteT ?_
      have hlen := ha.length
      refine ⟨_, rfl, _, rfl, _, _, rfl, Of3.tup e, _, _, rfl, rfl, _, rfl, ?_⟩
      have nl : arePartsD n (.tuple ds) = (decide (n ≤ ds.length) && decide (ds.length ≤ 3) && ds.all isPartD) := rfl
      have bad : ∀ H', Same H H' → arePartsD n (.tuple ds) = false → Q (.bl false) H' := fun H' e q => by
        have := k H' e
        rw [q] at this
        exact this
      refine ite2 (fun c1 => ?_) (fun c1 => ?_)
      · have c1 : (n : Int) ≤ xs.length := of_decide_eq_true c1
        refine ⟨_, _, rfl, rfl, _, rfl, ?_⟩
        refine ite2 (fun c2 => ?_) (fun c2 => ?_)
        · have c2 : (xs.length : Int) ≤ 3 := of_decide_eq_true c2
          refine ⟨_, rfl, a, rfl, ⟨_, SqT.of e⟩, fun D hD => ?_⟩
          refine lc_tup (K := K) (a := a) (xs := xs) (fun i H1 => Same H H1 ∧ H1 D = some (.lst ((ds.take i).map fun d => V.bl (isPartD d)))) ?_ ?_ ?_ ?_
          · exact ⟨same_upd (Same.refl H) hD, upd_same⟩
          · rintro i H1 _ ⟨g1, _⟩
            exact SqT.of (g1 _ _ e)
          · rintro i x H1 hx ⟨g1, g2⟩
            obtain ⟨d, hd, hxd⟩ := ha.get hx
            refine ⟨rfl, _, rfl, x, d, rfl, hxd.le g1, fun H2 g3 => ⟨_, g3 _ _ g2, ?_, same_mut (g1.trans g3) hD, ?_⟩⟩
            · have h9 : (ds.take i).length ≤ ds.length := List.length_take_le' ..
              rw [List.length_map, sizeLine_eq]; omega
            · rw [upd_same, take_snoc hd, List.map_append]; rfl
          · rintro H1 ⟨g1, g2⟩
            refine ⟨D, ds.map isPartD, rfl, SqL.of ?_, ?_⟩
            · rw [g2, List.take_of_length_le (by omega), List.map_map]; rfl
            · have := k H1 g1
              rw [nl, decide_eq_true (show n ≤ ds.length by omega), decide_eq_true (show ds.length ≤ 3 by omega)] at this
              rw [List.all_map]
              exact this
        · have c2 : ¬ (xs.length : Int) ≤ 3 := fun q => c2 (decide_eq_true q)
          exact bad H (Same.refl H) (by rw [nl, decide_eq_false (show ¬ ds.length ≤ 3 by omega)]; simp)
      · have c1 : ¬ (n : Int) ≤ xs.length := fun q => c1 (decide_eq_true q)
        exact ⟨_, rfl, iteF (bad H (Same.refl H) (by rw [nl, decide_eq_false (show ¬ n ≤ ds.length by omega)]; simp))⟩
    | _ => exact iteF (k _ (Same.refl H))
/-- a judge of streams -/
def spStr : Sp := fun vs H Q _ => ∃ (u v : V) (d e : PyData), vs = [u, v] ∧ Dx H u d ∧ Dx H v e ∧ ∀ H', Same H H' → Q (.bl (areStreamsD d e)) H'
theorem part_shape {d : PyData} (h : isPartD d = true) : ∃ x y : Str, d = .tuple [.str x, .str y] ∧ nameL (cps x) = true ∧ signsL (cps y) = true := by
  match d, h with
  | .tuple [.str x, .str y], h =>
    have h : (nameL (cps x) && signsL (cps y)) = true := h
    rw [Bool.and_eq_true] at h
    exact ⟨x, y, rfl, h.1, h.2⟩
  | .tuple [.str _, .none], h => simp [isPartD, isNameD, isSignsD] at h
  | .tuple [.str _, .bool _], h => simp [isPartD, isNameD, isSignsD] at h
  | .tuple [.str _, .int _], h => simp [isPartD, isNameD, isSignsD] at h
  | .tuple [.str _, .list _], h => simp [isPartD, isNameD, isSignsD] at h
  | .tuple [.str _, .tuple _], h => simp [isPartD, isNameD, isSignsD] at h
  | .tuple [.str _, .dict _], h => simp [isPartD, isNameD, isSignsD] at h
  | .tuple [.none, _], h => simp [isPartD, isNameD, isSignsD] at h
  | .tuple [.bool _, _], h => simp [isPartD, isNameD, isSignsD] at h
  | .tuple [.int _, _], h => simp [isPartD, isNameD, isSignsD] at h
  | .tuple [.list _, _], h => simp [isPartD, isNameD, isSignsD] at h
  | .tuple [.tuple _, _], h => simp [isPartD, isNameD, isSignsD] at h
  | .tuple [.dict _, _], h => simp [isPartD, isNameD, isSignsD] at h
theorem parts_shape {n : Nat} {d : PyData} (h : arePartsD n d = true) : ∃ ds, d = .tuple ds ∧ n ≤ ds.length ∧ ds.length ≤ 3 ∧ ∀ e ∈ ds, isPartD e = true := by
  match d, h with
  | .tuple ds, h =>
    have h : (decide (n ≤ ds.length) && decide (ds.length ≤ 3) && ds.all isPartD) = true := h
    simp only [Bool.and_eq_true, decide_eq_true_eq, List.all_eq_true] at h
    exact ⟨ds, rfl, h.1.1, h.1.2, h.2⟩
end
end Fs
namespace Fs
open PySem PySem.Spec PyProof.Rows L2
theorem part_inv {H : Hp} {v : V} {d : PyData} (h : Dx H v d) (p : isPartD d = true) : ∃ (t : Addr) (x y : Str), v = .ref t ∧ d = .tuple [.str x, .str y] ∧ H t = some (.tup [.str x, .str y]) ∧ nameL (cps x) = true ∧ signsL (cps y) = true := by
  obtain ⟨x, y, rfl, h1, h2⟩ := part_shape p
  cases h with
  | @tup a xs _ e ha =>
    cases ha with
    | cons hx t =>
      cases t with
      | cons hy t =>
        cases t
        cases hx
        cases hy
        exact ⟨a, x, y, rfl, rfl, e, h1, h2⟩
theorem parts_inv {H : Hp} {v : V} {d : PyData} {n : Nat} (h : Dx H v d) (p : arePartsD n d = true) : ∃ (a : Addr) (xs : List V) (ds : List PyData), v = .ref a ∧ d = .tuple ds ∧ H a = some (.tup xs) ∧ DxAll H xs ds ∧ n ≤ ds.length ∧ ds.length ≤ 3 ∧ ∀ e ∈ ds, isPartD e = true := by
  obtain ⟨ds, rfl, h1, h2, h3⟩ := parts_shape p
  cases h with
  | @tup a xs _ e ha => exact ⟨a, xs, ds, rfl, rfl, e, ha, h1, h2, h3⟩
/-- the sum of two tuples: one of them, or a new one -/
theorem cat_get {K : PySem.W.Frag} {H : Hp} {a b : Addr} {xs ys : List V} {Q : VK} (ha : H a = some (.tup xs)) (hb : H b = some (.tup ys)) (hz : xs.length + ys.length ≤ sizeLine)
    (q : ∀ (t : Addr) (H' : Hp), Same H H' → H' t = some (.tup (xs ++ ys)) → Q (.ref t) H') : rCatA K (.ref a) (.ref b) H Q := by
  refine ⟨a, b, xs, ys, rfl, rfl, SqT.of ha, SqT.of hb, hz, fun e => ?_, fun _ e => ?_, fun _ _ p hp => ?_⟩
  · subst e; exact q b H (Same.refl H) hb
  · subst e; exact q a H (Same.refl H) (by rw [List.append_nil]; exact ha)
  · exact q p _ (same_upd (Same.refl H) hp) upd_same
section
variable {P : Program} {w : World} {K : PySem.W.Frag} {mg : Str → Option Value} {base : Heap}
theorem nodup_dec (xs : List Str) : decide (V.int ((distinct xs).length : Nat) = V.int (xs.length : Nat)) = decide xs.Nodup := by
  have h := distinct_iff xs
  by_cases c : xs.Nodup
  · rw [decide_eq_true c, decide_eq_true (by rw [h.mpr c])]
  · rw [decide_eq_false c, decide_eq_false (fun q => c (h.mp (by injection q with q; omega)))]
abbrev s_p_streams : Stmt := top 19
theorem sc_p_streams : FnScope ["sources", "sinks", "names", "name", "signs"] ["sources", "sinks"] (defScope s_p_streams) := ⟨rfl, rfl, rfl, by decide +kernel, rfl, by decide +kernel, by decide +kernel⟩
theorem cal_p_streams (T : Bs mg) (D : Df K mg "are_streams" s_p_streams ["sources", "sinks"]) (C_p_parts : Cal P w K mg base 3 "are_parts" spAre) : Cal P w K mg base 4 "are_streams" spStr := by
  refine D.cal sc_p_streams (fun vs H Q E h => ?_) (fun f cdv A outer s H vs Q E hr h => ?_)
  · obtain ⟨u, v, d, e, rfl, _⟩ := h
    rfl
  · obtain ⟨u, v, d, e, rfl, hd, he, k⟩ := h
    refine ⟨_, pss_cons (ps_if (PW.pt (pw_or (pt_not (pt_val (pc C_p_parts hr (pa_cons (pv 0) (pa_cons pe_int pa_nil))))) (pw_or1 (pt_not (pt_val (pc C_p_parts hr (pa_cons (pv 1) (pa_cons pe_int pa_nil))))))))
        (pss_one (ps_ret pe_bl))
        pss_nil)
      (pss_cons (ps_setLc (i := 2) (own := [("name", 3), ("signs", 4)]) (te := (tVar 3)) (g := gTup K 2 (gCons (gName 3) (gCons (gName 4) gNil))) rfl sc_p_streams.nd rfl rfl (sw_true rfl rfl rfl (by decide +kernel)) (pi_tup (pe_op op_catA (pv 0) (pv 1))) (blkOk_by (N := ["sources", "sinks", "names", "name", "signs"]) (sc := defScope s_p_streams) (by decide +kernel)) (fun _ _ _ _ _ => (pg_tup rfl (pgs_cons (pg_name (i := 3) sc_p_streams.nd rfl (Or.inl rfl)) (pgs_cons (pg_name (i := 4) sc_p_streams.nd rfl (Or.inl rfl)) pgs_nil)))) (fun _ _ _ _ _ => pts_nil) (fun _ _ _ _ _ => (pv 3)))
      (pss_one (ps_ret (pe_cmpR op_eq (pe_lenSetS T.z_len T.z_set (pv 2)) (pb call_len3 T.z_len (pa_cons (pv 2) pa_nil)) (nomark _))))), ?_⟩
    have bad : ∀ H', Same H H' → areStreamsD d e = false → Q (.bl false) H' := fun H' e q => by
      have := k H' e
      rw [q] at this
      exact this
    refine ⟨_, rfl, u, d, 1, rfl, hd, fun H1 e1 => ⟨_, rfl, ?_⟩⟩
    cases c1 : arePartsD 1 d with
    | false => exact iteT (iteT (bad H1 e1 (by unfold areStreamsD; rw [c1]; rfl)))
    | true =>
      refine iteF ?_
      refine ⟨_, rfl, v, e, 0, rfl, he.le e1, fun H2 e2 => ⟨_, rfl, ?_⟩⟩
      have e12 := e1.trans e2
      cases c2 : arePartsD 0 e with
      | false => exact iteT (bad H2 e12 (by unfold areStreamsD; rw [c1, c2]; rfl))
      | true =>
        refine iteF ?_
        obtain ⟨a, xs, ds, rfl, rfl, ea, hxs, l1, l2, p1⟩ := parts_inv hd c1
        obtain ⟨b, ys, es, rfl, rfl, eb, hys, m1, m2, p2⟩ := parts_inv he c2
        have lx := hxs.length
        have ly := hys.length
        have hall : DxAll H (xs ++ ys) (ds ++ es) := hxs.append hys
        have pall : ∀ z ∈ ds ++ es, isPartD z = true := fun z hz => (List.mem_append.mp hz).elim (p1 z) (p2 z)
        refine ⟨_, rfl, _, rfl, ?_⟩
        refine cat_get (e12 _ _ ea) (e12 _ _ eb) (by rw [sizeLine_eq]; omega) fun t H3 e3 ht => ?_
        have e13 := e12.trans e3
        refine ⟨t, rfl, ⟨_, SqT.of ht⟩, fun D hD => ?_⟩
        have hD0 := e13.free hD
        refine lc_tup (K := K) (a := t) (xs := xs ++ ys) (fun i H4 => Same H H4 ∧ H4 t = some (.tup (xs ++ ys)) ∧ H4 D = some (.lst (((ds ++ es).take i).map fun d => V.str (nameOf d)))) ?_ ?_ ?_ ?_
        · exact ⟨same_upd e13 hD, by rw [upd_ne (ne_of_none ht hD)]; exact ht, upd_same⟩
        · rintro i H4 _ ⟨_, h, _⟩
          exact SqT.of h
        · rintro i x H4 hx ⟨g1, g2, g3⟩
          obtain ⟨z, hz, hxz⟩ := hall.get hx
          obtain ⟨q, n, sg, rfl, rfl, hq, _, _⟩ := part_inv (hxz.le g1) (pall z (List.mem_of_getElem? hz))
          refine ⟨q, _, rfl, SqT.of hq, rfl, _, _, rfl, _, _, rfl, rfl, rfl, _, rfl, _, g3, ?_, same_mut g1 hD0, ?_, ?_⟩
          · have h9 : ((ds ++ es).take i).length ≤ (ds ++ es).length := List.length_take_le' ..
            rw [List.length_append] at h9
            rw [List.length_map, sizeLine_eq]; omega
          · rw [upd_ne (ne_of g2 g3 (by intro z; cases z))]; exact g2
          · rw [upd_same, take_snoc hz, List.map_append]; rfl
        · rintro H4 ⟨g1, g2, g3⟩
          have hn : H4 D = some (.lst (((ds ++ es).map nameOf).map V.str)) := by
            rw [g3, List.take_of_length_le (by rw [List.length_append, List.length_append]; omega), List.map_map]; rfl
          have hl : ((ds ++ es).map nameOf).length ≤ 6 := by rw [List.length_map, List.length_append]; omega
          refine ⟨_, rfl, D, (ds ++ es).map nameOf, rfl, SqL.of hn, by omega, ?_⟩
          refine ⟨_, rfl, _, _, rfl, Of3.lst hn, rfl, ?_⟩
          rw [List.length_map (as := (ds ++ es).map nameOf), nodup_dec]
          have := k H4 g1
          unfold areStreamsD at this
          rw [c1, c2, show namesD (.tuple ds) ++ namesD (.tuple es) = (ds ++ es).map nameOf from (List.map_append ..).symm] at this
          exact this
end
end Fs
namespace Fs
open PySem PySem.Spec PyProof.Rows L2
/-! ### small texts of low codes -/
structure Lo (n : Nat) (y : Str) : Prop where
  len : y.length ≤ n
  cod : ∀ c ∈ cps y, c < 128
theorem pow16 : (16 : Nat) ^ 8 = 4294967296 := by decide
theorem Lo.tok {n : Nat} {y : Str} (h : Lo n y) (hn : n ≤ 9000) : TOk y := by
  refine ⟨?_, fun c hc => ?_⟩
  · have := h.len
    omega
  · have := h.cod c hc
    rw [pow16]
    omega
theorem cps_add (x y : Str) : cps (x ++ y) = cps x ++ cps y := by
  show (x.cps ++ y.cps).toList = _
  rw [Array.toList_append]
theorem Lo.add {n m : Nat} {x y : Str} (h : Lo n x) (g : Lo m y) : Lo (n + m) (x ++ y) := by
  refine ⟨?_, fun c hc => ?_⟩
  · have h1 := h.len
    have h2 := g.len
    rw [len_cps] at h1 h2 ⊢
    rw [cps_add, List.length_append]; omega
  · rw [cps_add] at hc
    exact (List.mem_append.mp hc).elim (h.cod c) (g.cod c)
theorem Lo.cut {n : Nat} {z : Str} (h : Lo n z) (a b : Option Int) : Lo n (cutS z a b) := by
  refine ⟨Nat.le_trans (cutS_length z a b) h.len, fun c hc => h.cod c ?_⟩
  have hc : c ∈ (((z.cps.toList.drop (HT.sIx z.length 0 a)).take (HT.sIx z.length z.length b - HT.sIx z.length 0 a)).toArray).toList := hc
  simp only [] at hc
  exact List.mem_of_mem_drop (List.mem_of_mem_take hc)
theorem Lo.sub {n : Nat} {y z : Str} (h : Lo n z) (l : y.length ≤ z.length) (c : ∀ c ∈ cps y, c ∈ cps z) : Lo n y := ⟨Nat.le_trans l h.len, fun d hd => h.cod d (c d hd)⟩
theorem Lo.upper {n : Nat} {z : Str} (h : Lo n z) : Lo n (Txt.upper z) := by
  have e := SX.upper_S (a := cps z) (List.all_eq_true.mpr fun c hc => decide_eq_true (h.cod c hc))
  rw [SX.S_tl] at e
  rw [e]
  refine ⟨?_, fun c hc => ?_⟩
  · have := h.len
    rw [len_cps] at this ⊢
    rw [cps_S, List.length_map]; exact this
  · rw [cps_S] at hc
    obtain ⟨d, hd, rfl⟩ := List.mem_map.mp hc
    have h1 := h.cod d hd
    have : ∀ d : Nat, d < 128 → PyProof.Rows.up1 d < 128 := by decide +kernel
    exact this d h1
theorem foldl_rep (a : Array Nat) : ∀ (n : Nat) (b : Array Nat) (c : Nat), c ∈ ((List.replicate n a).foldl (· ++ ·) b).toList → c ∈ b.toList ∨ c ∈ a.toList
  | 0, b, c, h => .inl h
  | n + 1, b, c, h => by
    have h : c ∈ ((List.replicate n a).foldl (· ++ ·) (b ++ a)).toList := h
    rcases foldl_rep a n (b ++ a) c h with h | h
    · rw [Array.toList_append] at h
      exact List.mem_append.mp h
    · exact .inr h
theorem Lo.mul {n m : Nat} {z : Str} {k : Int} (h : Lo n z) (hk : k ≤ (m : Int)) : Lo (n * m) (Txt.mul z k) := by
  refine ⟨len_mul_leN h.len hk, fun c hc => h.cod c ?_⟩
  unfold Txt.mul at hc
  split at hc
  · cases hc
  · split at hc
    · exact hc
    · rcases foldl_rep z.cps _ _ c hc with h | h
      · cases h
      · exact h
def rMulS : R2 := fun x y H Q => ∃ z n, x = .str z ∧ y = .int n ∧ z.length ≤ 100 ∧ 0 ≤ n ∧ n ≤ 10000 ∧ Q (.str (Txt.mul z n)) H
def tRevS (te : TE) : TE := fun σ H Q => te σ H fun x H1 => ∃ z, x = .str z ∧ z.length ≤ 100000 ∧ ∀ z' : Str, z'.length ≤ z.length → (∀ c ∈ cps z', c ∈ cps z) → Q (.str z') H1
section
variable {X : Cx}
theorem op_mulS : OpR X (binaryOp .Mult) rMulS := by
  intro pins s σ H x y v u Q I rx ry h
  obtain ⟨z, n, rfl, rfl, hz, h0, hn, q⟩ := h
  obtain ⟨t, rfl⟩ := rx
  obtain ⟨t', rfl⟩ := ry
  exact SB.mul (mulOk_of 100 10000 hz (by omega) (by omega) (by decide) (by decide)) fun t' k => ⟨.str _, H, I.tok _, ⟨_, rfl⟩, q⟩
theorem pe_revS {e : Expr} {te : TE} {k : Nat} {p1 p2 p3 pos : Pos} (he : PE X e te) : PE X (.Subscript e (.Slice none none (some (.UnaryOp .USub (.Constant (.int 1) k p1) p2)) p3) pos) (tRevS te) := by
  refine ⟨fun pins s σ H Q I h => ?_⟩
  refine Subscript_ (thn (he.run pins s σ H _ I h) fun v s1 ⟨x, H1, I1, r1, q1⟩ => ?_)
  obtain ⟨z, ex, hz, q⟩ := q1
  subst ex
  obtain ⟨t, rfl⟩ := r1
  have hst : PO X (some (.UnaryOp .USub (.Constant (.int 1) k p1) p2)) (tPart (tUn (rU fun i => .int (-i)) (tC (.int 1)))) := po_some (pe_un un_neg pe_int)
  refine wpAny_Slice (thn (po_none.run pins s1 σ H1 (fun o H2 => o = none ∧ H2 = H1) I1 ⟨rfl, rfl⟩) fun vl s2 ⟨l, H2, I2, pl, el, e2⟩ => ?_)
  subst el e2
  refine thn (po_none.run pins s2 σ H2 (fun o H3 => o = none ∧ H3 = H2) I2 ⟨rfl, rfl⟩) fun vu s3 ⟨u, H3, I3, pu, eu, e3⟩ => ?_
  subst eu e3
  refine thn (hst.run pins s3 σ H3 (fun o H4 => o = some (-1) ∧ H4 = H3) I3 ⟨1, rfl, -1, rfl, rfl, rfl⟩) fun vs s4 ⟨o, H4, I4, ps, eo, e4⟩ => ?_
  subst eo e4
  have I5 : Inv X pins σ H4 { s4 with heap := s4.heap.push { cls := .type "slice", data := .fields #[vl, vu, vs] } } := I4.kept (t' := s4.toks) fun b ob q => Heap.get?_push_of_some _ q
  clear hst
  cases pl
  cases pu
  cases ps with
  | int _ ts =>
    show wpAny (model X.prog X.w) X.A (subscriptTail e (.Slice none none (some (.UnaryOp .USub (.Constant (.int 1) k p1) p2)) p3) (.str z t) (.ref s4.heap.objs.size)) (EP X pins σ Q) X.xe { s4 with heap := s4.heap.push { cls := .type "slice", data := .fields #[.none, .none, .int (-1) ts] } }
    refine tail_any (ops := [.ref s4.heap.objs.size, .str z t]) (typeIs_str _ _ _) PySem.F.slot_str_getitem.lookup ?_ (by with_unfolding_all rfl)
    refine wpAny_getItem_str_slice (l := none) (u := none) (st := some (-1, ts)) ⟨_, Heap.get?_push_size _ rfl, rfl, rfl⟩ rfl ?_
    have e1 : slicePicked z none none (some (-1, ts)) = (List.range z.length).map fun k => z.length - 1 - k := PySem.W.krv_sliceRange z.length
    have e2 : sliceMade z t none none (some (-1, ts)) = .str ⟨((slicePicked z none none (some (-1, ts))).filterMap (z.cps[·]?)).toArray⟩ := rfl
    rw [e2, e1]
    have hl : (((List.range z.length).map fun k => z.length - 1 - k).filterMap (z.cps[·]?)).length ≤ z.length := by
      refine Nat.le_trans (List.length_filterMap_le ..) ?_
      rw [List.length_map, List.length_range]; exact Nat.le_refl _
    have hl2 : (⟨(((List.range z.length).map fun k => z.length - 1 - k).filterMap (z.cps[·]?)).toArray⟩ : Str).length ≤ z.length := by
      rw [len_cps]; exact hl
    refine ⟨Nat.le_trans hl2 (by rw [sizeLine_eq]; omega), .str _, H4, I5.tok _, ⟨_, rfl⟩, q _ hl2 fun c hc => ?_⟩
    have hc : c ∈ ((List.range z.length).map fun k => z.length - 1 - k).filterMap (z.cps[·]?) := by simpa using hc
    obtain ⟨i, _, hi⟩ := List.mem_filterMap.mp hc
    rw [← Array.getElem?_toList] at hi
    exact List.mem_of_getElem? hi
end
end Fs
namespace Fs
open PySem PySem.Spec PyProof.Rows L2
/-! ### small lists of data -/
structure FitA (n m : Nat) (ds : List PyData) : Prop where
  we : PyData.weightAll ds ≤ n
  de : PyData.depthAll ds ≤ m
theorem FitA.nil {n m : Nat} : FitA n m [] := ⟨by simp only [PyData.weightAll]; omega, by simp only [PyData.depthAll]; omega⟩
theorem FitA.cons {n k m : Nat} {d : PyData} {ds : List PyData} (h : Fit n m d) (g : FitA k m ds) : FitA (n + 1 + k) m (d :: ds) := by
  have h1 := h.we
  have h2 := h.de
  have g1 := g.we
  have g2 := g.de
  exact ⟨by simp only [PyData.weightAll]; omega, by simp only [PyData.depthAll]; omega⟩
theorem FitA.head {n m : Nat} {d : PyData} {ds : List PyData} (h : FitA n m (d :: ds)) : d.weight + 1 + PyData.weightAll ds ≤ n ∧ d.depth ≤ m ∧ PyData.depthAll ds ≤ m := by
  have h1 := h.we
  have h2 := h.de
  simp only [PyData.weightAll, PyData.depthAll] at h1 h2
  omega
theorem FitA.append {n k m : Nat} : ∀ {ds es : List PyData}, FitA n m ds → FitA k m es → FitA (n + k) m (ds ++ es)
  | [], es, _, g => ⟨by have := g.we; show PyData.weightAll es ≤ _; omega, g.de⟩
  | d :: ds, es, h, g => by
    obtain ⟨h1, h2, h3⟩ := h.head
    have i := FitA.append (n := n - (d.weight + 1)) (ds := ds) ⟨by omega, h3⟩ g
    have i1 := i.we
    have i2 := i.de
    rw [List.cons_append]
    exact ⟨by simp only [PyData.weightAll]; omega, by simp only [PyData.depthAll]; omega⟩
theorem FitA.take {n m : Nat} : ∀ {ds : List PyData} (i : Nat), FitA n m ds → FitA n m (ds.take i)
  | _, 0, _ => by rw [List.take_zero]; exact .nil
  | [], _ + 1, _ => by rw [List.take_nil]; exact .nil
  | d :: ds, i + 1, h => by
    obtain ⟨h1, h2, h3⟩ := h.head
    have j := FitA.take (n := n - (d.weight + 1)) (ds := ds) i ⟨by omega, h3⟩
    have i1 := j.we
    have i2 := j.de
    rw [List.take_succ_cons]
    exact ⟨by simp only [PyData.weightAll]; omega, by simp only [PyData.depthAll]; omega⟩
theorem FitA.drop {n m : Nat} : ∀ {ds : List PyData} (i : Nat), FitA n m ds → FitA n m (ds.drop i)
  | _, 0, h => h
  | [], _ + 1, _ => by rw [List.drop_nil]; exact .nil
  | d :: ds, i + 1, h => by
    obtain ⟨h1, h2, h3⟩ := h.head
    rw [List.drop_succ_cons]
    exact FitA.drop i ⟨by omega, h3⟩
theorem FitA.tup {n m : Nat} {ds : List PyData} (h : FitA n m ds) : Fit n (m + 1) (.tuple ds) := ⟨by have := h.we; simp only [PyData.weight]; omega, by have := h.de; simp only [PyData.depth]; omega⟩
theorem FitA.lst {n m : Nat} {ds : List PyData} (h : FitA n m ds) : Fit n (m + 1) (.list ds) := ⟨by have := h.we; simp only [PyData.weight]; omega, by have := h.de; simp only [PyData.depth]; omega⟩
theorem Fit.le {n m n' m' : Nat} {d : PyData} (h : Fit n m d) (hn : n ≤ n' := by omega) (hm : m ≤ m' := by omega) : Fit n' m' d := ⟨Nat.le_trans h.we hn, Nat.le_trans h.de hm⟩
theorem FitA.le {n m n' m' : Nat} {d : List PyData} (h : FitA n m d) (hn : n ≤ n' := by omega) (hm : m ≤ m' := by omega) : FitA n' m' d := ⟨Nat.le_trans h.we hn, Nat.le_trans h.de hm⟩
theorem fit_str {x : Str} {n m : Nat} (h : x.length ≤ n) : Fit n m (.str x) := ⟨by simp only [PyData.weight]; exact h, by simp only [PyData.depth]; omega⟩
theorem fit_non {n m : Nat} : Fit n m .none := ⟨by simp only [PyData.weight]; omega, by simp only [PyData.depth]; omega⟩
theorem fit_zero {n m : Nat} : Fit n m (.int 0) := ⟨by simp [PyData.weight], by simp only [PyData.depth]; omega⟩
theorem lo_name {x : Str} (h : nameL (cps x) = true) : Lo 8 x := by
  unfold nameL at h
  simp only [Bool.and_eq_true, decide_eq_true_eq] at h
  refine ⟨by rw [len_cps]; omega, fun c hc => ?_⟩
  have := List.all_eq_true.mp h.1.2 c hc
  simp only [Bool.and_eq_true, decide_eq_true_eq] at this
  omega
theorem lo_signs {x : Str} (h : signsL (cps x) = true) : Lo 8 x := by
  unfold signsL at h
  simp only [Bool.and_eq_true, decide_eq_true_eq] at h
  refine ⟨by rw [len_cps]; omega, fun c hc => ?_⟩
  have := List.all_eq_true.mp h.1.2 c hc
  simp only [Bool.and_eq_true, decide_eq_true_eq] at this
  omega
theorem fit_pair {x y : Str} (hx : Lo 8 x) (hy : Lo 8 y) : Fit 18 1 (.tuple [.str x, .str y]) :=
  (FitA.cons (fit_str hx.len) (FitA.cons (k := 0) (fit_str hy.len) .nil) : FitA (8 + 1 + (8 + 1 + 0)) 0 _).tup
theorem fit_parts : ∀ (ds : List PyData), (∀ e ∈ ds, isPartD e = true) → FitA (19 * ds.length) 1 ds
  | [], _ => .nil
  | d :: ds, h => by
    obtain ⟨x, y, rfl, h1, h2⟩ := part_shape (h d (List.mem_cons_self ..))
    have i := fit_parts ds fun e he => h e (List.mem_cons_of_mem _ he)
    exact ((FitA.cons (fit_pair (lo_name h1) (lo_signs h2)) i).le (by rw [List.length_cons]; omega) (Nat.le_refl _))
theorem DxAll.take {H : Hp} : ∀ {vs : List V} {ds : List PyData} (i : Nat), DxAll H vs ds → DxAll H (vs.take i) (ds.take i)
  | _, _, 0, _ => by rw [List.take_zero, List.take_zero]; exact .nil
  | _, _, _ + 1, .nil => .nil
  | _, _, i + 1, .cons h t => .cons h (DxAll.take i t)
theorem DxAll.drop {H : Hp} : ∀ {vs : List V} {ds : List PyData} (i : Nat), DxAll H vs ds → DxAll H (vs.drop i) (ds.drop i)
  | _, _, 0, h => h
  | _, _, _ + 1, .nil => .nil
  | _, _, i + 1, .cons h t => DxAll.drop i t
/-! ### rules -/
def rEqX : R2 := fun x y H Q => ∃ d e, Dx H x d ∧ Dx H y e ∧ SeqAt.shaped d = true ∧ SeqAt.shaped e = true ∧ Q (.bl (PyData.eqv d e)) H
def rList3N (K : PySem.W.Frag) : List V → Hp → VK → Prop := fun xs H Q => ∃ x l, xs = [x] ∧ Of3 K H x l ∧ ∀ p, H p = none → p ≠ sysModules → Q (.ref p) (upd H p (.lst l))
section
variable {X : Cx}
theorem op_eqX (hu : X.A.units + 64 < cLine) : OpR X (compareOp .Eq) rEqX := by
  intro pins s σ H x y v u Q I rx ry h
  obtain ⟨d, e, hd, he, sd, se, q⟩ := h
  obtain ⟨as, r1, _⟩ := Dx.reads I d x v hd rx
  obtain ⟨bs, r2, _⟩ := Dx.reads I e y u he ry
  exact SeqAt.compareEq_shaped r1 r2 sd se hu ⟨.bl _, H, I, rfl, q⟩
theorem call_list3N (hc : X.calm = true) : CallR X (.type "list") (rList3N X.K) := by
  intro pins s σ H xs us Q I rel h
  obtain ⟨x, l, ex, h3, q⟩ := h
  subst ex
  obtain ⟨u, eu, rx⟩ := vals1 rel
  subst eu
  have fin : ∀ (its : List Value), Vals l its → l.length ≤ sizeLine → ∀ (h' : Heap) (tk c' : Nat), (∀ b o', s.heap.get? b = some o' → h'.get? b = some o') →
      h'.get? s.heap.objs.size = some { cls := .type "list", dict := none, data := .seq its.toArray c', slots := #[] } → EP X pins σ Q (.ref s.heap.objs.size) { s with heap := h', toks := tk } := fun its r' hz h' tk c' kp e =>
    ⟨.ref s.heap.objs.size, _, I.laid (t' := tk) kp (Nat.le_refl _) (show ObjOk X.prog X.w _ h' _ (.lst l) from ⟨hz, its, c', r', e⟩), rfl, q _ (I.hok.fresh (Nat.le_refl _)) (Nat.ne_of_gt I.big)⟩
  rcases h3 with ⟨p, ep, hq | hq⟩ | ⟨z, ez, hz, el⟩
  · subst ep
    cases rx
    obtain ⟨its, r', pl, hz⟩ := I.list hq
    have hlen := r'.length
    obtain ⟨o, ho, hc, n, hd⟩ := pl.isList
    exact call_list_seq p (.inl rfl) ho hc hd (fun h' c' kp e => fin its r' hz h' s.toks c' kp e) (by simp only [List.size_toArray] <;> omega)
  · subst ep
    cases rx
    obtain ⟨its, r', pl, hz⟩ := I.tuple hq
    have hlen := r'.length
    obtain ⟨o, ho, hc, n, hd⟩ := pl
    exact call_list_seq p (.inr rfl) ho hc hd (fun h' c' kp e => fin its r' hz h' s.toks c' kp e) (by simp only [List.size_toArray] <;> omega)
  · subst ez el
    obtain ⟨t, et⟩ := rx
    subst et
    have hz' : z.cps.size ≤ sizeLine := Nat.le_trans hz (by decide)
    refine call_list_str (I.ok.hd hc) z t (fun h' tk acc c kp at_ of_ => ?_) hz'
    refine fin acc.toList ?_ (by rw [List.length_map, Array.length_toList]; exact hz') h' tk c kp (by simpa using at_)
    refine vals_of_at (by rw [List.length_map, Array.length_toList, Array.length_toList]; exact of_.1.symm) fun j x w h1 h2 => ?_
    rw [Array.getElem?_toList] at h2
    obtain ⟨c', t', hc', ew⟩ := of_.2 j w h2
    subst ew
    rw [List.getElem?_map, Array.getElem?_toList, hc'] at h1
    cases h1
    exact ⟨t', rfl⟩
end
/-- a slice of a tuple: itself or a new one -/
theorem sl_get {K : PySem.W.Frag} {H : Hp} {a : Addr} {xs : List V} {lo hi : Option Int} {Q : VK} (ha : H a = some (.tup xs)) (q : ∀ (t : Addr) (H' : Hp), Same H H' → H' t = some (.tup (cutV xs lo hi)) → Q (.ref t) H') : rSlA K (.ref a) lo hi H Q := by
  refine ⟨a, xs, rfl, SqT.of ha, fun e => ?_, fun _ p hp => q p _ (same_upd (Same.refl H) hp) upd_same⟩
  refine q a H (Same.refl H) ?_
  unfold cutV
  rw [e.1, e.2, List.drop_zero, Nat.sub_zero, List.take_of_length_le (Nat.le_refl _)]
  exact ha
/-- a new object -/
theorem nw {a p : Addr} {H : Hp} {o : HO} (hp : Pot H a) (h : H p = none) : Stp a H (upd H p o) ∧ upd H p o p = some o ∧ p ≠ a ∧ Same H (upd H p o) := ⟨(Stp.refl hp).new h, upd_same, hp.ne h, same_upd (Same.refl H) h⟩
end Fs
namespace Fs
open PySem PySem.Spec PyProof.Rows L2 SlX
/-! ### defs of a class with slots, called by the operators and by name -/
structure Mth (P : Program) (w : World) (K : PySem.W.Frag) (mg : Str → Option Value) (base : Heap) (CX : CXT) (C : Addr) (m : Str) (k : Nat) (sp : Sp) : Prop where
  ex : ∃ (g : Addr) (fd : FuncData) (ps : List Str), PySem.W.findIn K (.ref C) m = some (some (.ref g)) ∧ PySem.W.isFn K (.ref g) = true ∧ PySem.W.keepIn K (.ref g) = true ∧ Binds K fd ps [] ∧ FnG P w K mg base CX k g fd ps sp
theorem passAt0 {X : Cx} {σ : L2.St} {E : XK} : PassesAt CX0 X σ E := fun _ _ _ _ _ _ z => z.elim
section
variable {X : Cx} {CX : CXT} {k j : Nat} {g C : Addr} {fd : FuncData} {ps : List Str} {sp : Sp} {m : Str}
theorem run_gA {A : Around} {pins : List (Addr × Obj)} {σ : L2.St} {H : Hp} {s : Shared} {Q : VK} {E : XK} {us : List Value} {vs : List V} (F : FnG X.prog X.w X.K X.mg X.base CX k g fd ps sp) (room : Room k A) (gd : A.guards = some []) (e0 : Env0 X.prog X.w X.K X.mg X.base A X.stack s H)
    (b : Binds X.K fd ps []) (hx : PassesAt CX X σ E) (I : Inv X pins σ H s) (r : Vals vs us) (h : sp vs H Q E) : wpAny (model X.prog X.w) A (call (.ref g) us) (EP X pins σ Q) X.xe s := by
  have hl : (us ++ ([] : List Value)).length = ps.length := by rw [List.append_nil, ← r.length]; exact F.lens _ _ _ _ h
  have b1 := b s us I.kIn hl
  rw [List.append_nil] at b1
  refine wpAny_call (codeAny_mono (F.goes A X.stack s H ⟨us, []⟩ us vs Q E room gd e0 b1 r h) fun r s' hq => ?_)
  match r, hq with
  | .error err, hq => exact hx pins H s err s' I hq
  | .ok (.ret u), hq => exact I.after hq
  | .ok .next, hq => exact hq.elim
  | .ok .brk, hq => exact hq.elim
  | .ok .cont, hq => exact hq.elim
/-- x in o -/
def rInM (C : Addr) (sp : Sp) (neg : Bool) : R2 := fun x y H Q => ∃ (a dx : Addr) (vs : List (Option V)), y = .ref a ∧ Slt H a C dx vs ∧ sp [y, x] H (fun v H' => ∃ b, v = .bl b ∧ Q (.bl (if neg then !b else b)) H') E0
theorem op_inM (M : Mth X.prog X.w X.K X.mg X.base CX0 C "__contains__" k sp) (hr : Rm j X.A) (hk : k ≤ j := by decide) : OpR X (compareOp .In) (rInM C sp false) := by
  intro pins s σ H x y v u Q I rx ry h
  obtain ⟨a, dx, vs, rfl, sl, q⟩ := h
  cases (show u = Value.ref a from ry)
  obtain ⟨sl', od, _, J, _⟩ := slt_inst I sl
  obtain ⟨m, hF⟩ := I.fr
  obtain ⟨g, fd, ps, h1, h2, h3, b, F⟩ := M.ex
  refine PySem.W.in_K hF I.ok.mod.kin J h1 h2 ?_
  refine wpAny_mono (run_gA (us := [.ref a, v]) (vs := [.ref a, x]) F (hr.rm.mono hk) hr.gd I.env0 b passAt0 I (.cons rfl (.cons rx .nil)) q) (fun r s' z => ?_) fun _ _ x => x
  obtain ⟨z', H', I', rz, b', rfl, qz⟩ := z
  cases rz
  exact wpAny_truthy_bool ⟨.bl b', H', I', rfl, qz⟩
theorem op_notInM (M : Mth X.prog X.w X.K X.mg X.base CX0 C "__contains__" k sp) (hr : Rm j X.A) (hk : k ≤ j := by decide) : OpR X (compareOp .NotIn) (rInM C sp true) := by
  intro pins s σ H x y v u Q I rx ry h
  obtain ⟨a, dx, vs, rfl, sl, q⟩ := h
  cases (show u = Value.ref a from ry)
  obtain ⟨sl', od, _, J, _⟩ := slt_inst I sl
  obtain ⟨m, hF⟩ := I.fr
  obtain ⟨g, fd, ps, h1, h2, h3, b, F⟩ := M.ex
  refine PySem.W.notIn_K hF I.ok.mod.kin J h1 h2 ?_
  refine wpAny_mono (run_gA (us := [.ref a, v]) (vs := [.ref a, x]) F (hr.rm.mono hk) hr.gd I.env0 b passAt0 I (.cons rfl (.cons rx .nil)) q) (fun r s' z => ?_) fun _ _ x => x
  obtain ⟨z', H', I', rz, b', rfl, qz⟩ := z
  cases rz
  exact wpAny_truthy_bool ⟨.bl (!b'), H', I', rfl, qz⟩
/-- len(o) -/
def rLenM (C : Addr) (sp : Sp) : List V → Hp → VK → Prop := fun xs H Q => ∃ (a dx : Addr) (vs : List (Option V)), xs = [.ref a] ∧ Slt H a C dx vs ∧ sp [.ref a] H (fun v H' => ∃ n : Nat, v = .int n ∧ n < 1000 ∧ Q (.int n) H') E0
theorem call_lenM (M : Mth X.prog X.w X.K X.mg X.base CX0 C "__len__" k sp) (hr : Rm j X.A) (hk : k + 1 ≤ j := by decide) : CallR X (.builtin "len") (rLenM C sp) := by
  intro pins s σ H xs us Q I rel h
  obtain ⟨a, dx, vs, rfl, sl, q⟩ := h
  obtain ⟨u, rfl, rx⟩ := vals1 rel
  cases rx
  obtain ⟨sl', od, _, J, _⟩ := slt_inst I sl
  obtain ⟨m, hF⟩ := I.fr
  obtain ⟨g, fd, ps, h1, h2, h3, b, F⟩ := M.ex
  refine PySem.W.len_K hF I.ok.mod.kin J h1 h2 ?_
  refine wpAny_mono (run_gA (us := [.ref a]) (vs := [.ref a]) F (hr.rm.mono hk).in1 hr.gd I.env0.in1 b passAt0 I (.cons rfl .nil) q) (fun r s' z => ?_) fun _ _ x => x
  obtain ⟨z', H', I', rz, n, rfl, hn, qz⟩ := z
  obtain ⟨t, rfl⟩ := rz
  exact ⟨⟨by omega, by omega⟩, .int n, H', I'.tok _, ⟨_, rfl⟩, qz⟩
/-- str(o) -/
def rStrM (C : Addr) (sp : Sp) : List V → Hp → VK → Prop := fun xs H Q => ∃ (a dx : Addr) (vs : List (Option V)), xs = [.ref a] ∧ Slt H a C dx vs ∧ sp [.ref a] H (fun v H' => ∃ z, v = .str z ∧ Q (.str z) H') E0
theorem call_strM (M : Mth X.prog X.w X.K X.mg X.base CX0 C "__str__" k sp) (hr : Rm j X.A) (hk : k + 2 ≤ j := by decide) : CallR X (.type "str") (rStrM C sp) := by
  intro pins s σ H xs us Q I rel h
  obtain ⟨a, dx, vs, rfl, sl, q⟩ := h
  obtain ⟨u, rfl, rx⟩ := vals1 rel
  cases rx
  obtain ⟨sl', od, _, J, _⟩ := slt_inst I sl
  obtain ⟨g, fd, ps, h1, h2, h3, b, F⟩ := M.ex
  have room := (hr.rm.mono hk).in1.in1
  refine PySem.W.kso_call room.units0 I.kIn J h1 h2 ?_
  refine wpAny_mono (run_gA (us := [.ref a]) (vs := [.ref a]) F room hr.gd I.env0.in1.in1 b passAt0 I (.cons rfl .nil) q) (fun r s' z => ?_) fun _ _ x => x
  obtain ⟨z', H', I', rz, n, rfl, qz⟩ := z
  obtain ⟨t, rfl⟩ := rz
  exact ⟨.str n, H', I', ⟨t, rfl⟩, qz⟩
/-- x + y, both of the class -/
def tAddM (C : Addr) (sp : Sp) (E : L2.St → XK) (ta tb : TE) : TE := fun σ H Q => ta σ H fun x H1 => tb σ H1 fun y H2 => ∃ (a dx b dy : Addr) (vs ws : List (Option V)), x = .ref a ∧ y = .ref b ∧ Slt H2 a C dx vs ∧ Slt H2 b C dy ws ∧ sp [x, y] H2 Q (E σ)
theorem pe_addM {E : L2.St → XK} {a b : Expr} {ta tb : TE} {pos : Pos} (M : Mth X.prog X.w X.K X.mg X.base CX C "__add__" k sp) (sf : PySem.W.selfFirst X.K C = true) (hr : Rm j X.A) (hx : ∀ σ, PassesAt CX X σ (E σ)) (ha : PE X a ta) (hb : PE X b tb) (hk : k ≤ j := by decide) :
    PE X (.BinOp a .Add b pos) (tAddM C sp E ta tb) := by
  refine ⟨fun pins s σ H Q I h => ?_⟩
  refine wpAny_BinOp (binT ha hb I h fun v u s2 x y H2 I2 rx ry q => ?_)
  obtain ⟨a, dx, b, dy, vs, ws, rfl, rfl, sa, sb, q⟩ := q
  cases (show v = Value.ref a from rx)
  cases (show u = Value.ref b from ry)
  obtain ⟨sl', od, _, J, _⟩ := slt_inst I2 sa
  obtain ⟨sl2, od2, _, J2, _⟩ := slt_inst I2 sb
  obtain ⟨m, hF⟩ := I2.fr
  obtain ⟨g, fd, ps, h1, h2, h3, bb, F⟩ := M.ex
  refine PySem.W.binop_K (op := .Add) hF I2.ok.mod.kin J J2.type sf h1 h2 ?_
  refine wpAny_mono (run_gA (us := [.ref a, .ref b]) (vs := [.ref a, .ref b]) F (hr.rm.mono hk) hr.gd I2.env0 bb (hx σ) I2 (.cons rfl (.cons rfl .nil)) q) (fun r s' z => ?_) fun _ _ x => x
  obtain ⟨z', H', I', rz, qz⟩ := z
  exact cmpback rz ⟨z', H', I', rz, qz⟩
/-- x == y, x of the class; y: of a type that is not below it -/
def rEqM (K : PySem.W.Frag) (C : Addr) (sp : Sp) : R2 := fun x y H Q => ∃ (a dx : Addr) (vs : List (Option V)) (t : Value), x = .ref a ∧ Slt H a C dx vs ∧ ((∃ b dy ws, y = .ref b ∧ Slt H b C dy ws ∧ t = .ref C) ∨ TyX K H y t) ∧ PySem.W.notFirst K C t = true ∧ sp [x, y] H Q E0
theorem op_eqM (M : Mth X.prog X.w X.K X.mg X.base CX0 C "__eq__" k sp) (hr : Rm j X.A) (hk : k ≤ j := by decide) : OpR X (compareOp .Eq) (rEqM X.K C sp) := by
  intro pins s σ H x y v u Q I rx ry h
  obtain ⟨a, dx, vs, t, rfl, sl, hy, hn, q⟩ := h
  cases (show v = Value.ref a from rx)
  obtain ⟨sl', od, _, J, _⟩ := slt_inst I sl
  obtain ⟨m, hF⟩ := I.fr
  obtain ⟨g, fd, ps, h1, h2, h3, b, F⟩ := M.ex
  have hb : PySem.W.Looks (model X.prog X.w) s.heap (typeOf u) t := by
    rcases hy with ⟨b, dy, ws, rfl, sb, rfl⟩ | ty
    · cases (show u = Value.ref b from ry)
      obtain ⟨sl2, od2, _, J2, _⟩ := slt_inst I sb
      exact J2.type
    · obtain ⟨P, Z, p, _⟩ := kit_of I ry ty
      exact Z.ty _ _ I.kIn p
  refine PySem.W.cmp_K (op := .Eq) hr.rm.units0 hF I.ok.mod.kin J hb hn h1 h2 ?_
  refine wpAny_mono (run_gA (us := [.ref a, u]) (vs := [.ref a, y]) F (hr.rm.mono hk) hr.gd I.env0 b passAt0 I (.cons rfl (.cons ry .nil)) q) (fun r s' z => ?_) fun _ _ x => x
  obtain ⟨z', H', I', rz, qz⟩ := z
  exact cmpback rz ⟨z', H', I', rz, qz⟩
/-- o.m(e, ..) -/
theorem pe_mthd {E : L2.St → XK} {o e : Expr} {es : List Expr} {ta : TE} {t : TA} {pos apos : Pos} {pl : Sem Bool} (M : Mth X.prog X.w X.K X.mg X.base CX C m k sp) (c : SCls X.K C) (hr : Rm j X.A) (hx : ∀ σ, PassesAt CX X σ (E σ)) (he : PE X o ta) (ha : PA X (e :: es) t) (hk : k ≤ j := by decide)
    (hst : starEach (e :: es) X.env = (false, eval e X.env) :: starEach es X.env := by rfl) (hpl : (backTo pos (starEach es X.env)).any (·.1) = false := by rfl)
    (ht : eval (.Call (.Attribute o m apos) (e :: es) [] pos) X.env = (do
      let ov ← eval o X.env
      standAt apos.atName
      let (f, first) ← holding [ov] (getMethod ov m pl)
      callWith pos f first (backTo pos (starEach (e :: es) X.env)) (backToKw pos (keywordEach [] X.env))) := by rfl) :
    PE X (.Call (.Attribute o m apos) (e :: es) [] pos) (fun σ H Q => ta σ H fun x H1 => ∃ a dx vs, x = .ref a ∧ Slt H1 a C dx vs ∧ t σ H1 fun ws H2 => sp (x :: ws) H2 Q (E σ)) := by
  refine ⟨fun pins s σ H Q I h => ?_⟩
  refine PySem.W.methodCall_KW (pl := pl) (thn (he.run pins s σ H _ I h) fun u s1 ⟨x, H1, I1, rx, a, dx, vs, ex, hsl, q⟩ => ?_) ht
  subst ex
  obtain rfl : u = Value.ref a := rx
  obtain ⟨g, fd, ps, h1, h2, h3, b, F⟩ := M.ex
  refine getmethsl_ok I1 hsl c ⟨h1, h2, h3⟩ ?_
  refine PySem.W.callWith_K (first := [.ref a]) (h₀ := X.base) I.ok.mod.kin h3 (thn (ha.run pos pins s1 σ H1 _ I1 q) fun us s2 ⟨ws, H2, I2, r, q2⟩ => ⟨I2.kIn, ?_⟩) hst hpl
  exact run_gA (us := .ref a :: us) (vs := .ref a :: ws) F (hr.rm.mono hk) hr.gd I2.env0 b (hx σ) I2 (.cons rfl r) q2
/-- what is never reached -/
theorem ps_never {st : Stmt} : PS X st (fun _ _ _ => False) := ⟨fun _ _ _ _ _ _ h => h.elim⟩
end
end Fs
namespace Fs
open PySem PySem.Spec PyProof.Rows L2 SlX
/-! ### != of a class with an own == and no own != -/
theorem obj_eq : ∃ y : Option Value, typeLookup (.type "object") "__eq__" = pure y := ⟨some (.builtin "object.__eq__"), by rw [typeLookup_type, builtinLookup_eq_fast]; kernel_rfl⟩
theorem ns_of {K : PySem.W.Frag} {h : Heap} {N : Addr} {mN : Str → Option Value} {n : Str} {v : Value} (X : K.In h) (G : h.Ns N mN) (e : PySem.W.nsIn K N n = some (some v)) : mN n = some v := by
  obtain ⟨o, es, ep, ho, hd, _, hf⟩ := G
  unfold PySem.W.nsIn at e
  split at e
  · rename_i c d es' n' sl q
    have z := X _ _ q
    rw [ho] at z
    cases z
    cases hd
    split at e
    · rename_i en he
      cases e
      rw [← hf]
      unfold nsFind findBy
      rw [← Array.find?_toList, he]
      rfl
    · split at e <;> cases e
  · cases e
structure NeF (K : PySem.W.Frag) (C : Addr) : Prop where
  ex : ∃ (nm q : Str) (N : Addr) (bs : List Value) (hdct : Bool) (sn : List Str) (sub : List Value) (ab : Bool) (col : Option Bool) (dd : Option Addr) (k0 k1 k2 k3 k5 : Option Value) (newId : String) (g : Addr),
    K.lookup C = some (excClassObj nm q C N bs [.type "object"] hdct sn sub ab col dd k0 k1 k2 k3 k5 newId) ∧ PySem.W.nsOkIn K N = true ∧ PySem.W.nsIn K N "__eq__" = some (some (.ref g)) ∧ PySem.W.nsIn K N "__ne__" = some none ∧
    (∃ og, K.lookup g = some og ∧ og.cls = .type "function") ∧ PySem.W.findIn K (.ref C) "__eq__" = some (some (.ref g))
def rNeM (C : Addr) (sp : Sp) : R2 := fun x y H Q => ∃ (a dx b dy : Addr) (vs ws : List (Option V)), x = .ref a ∧ y = .ref b ∧ Slt H a C dx vs ∧ Slt H b C dy ws ∧ sp [x, y] H (fun v H' => ∃ r, v = .bl r ∧ Q (.bl (!r)) H') E0
section
variable {X : Cx} {k j : Nat} {C : Addr} {sp : Sp}
theorem op_neM (M : Mth X.prog X.w X.K X.mg X.base CX0 C "__eq__" k sp) (N : NeF X.K C) (hr : Rm j X.A) (hk : k + 1 ≤ j := by decide) : OpR X (compareOp .NotEq) (rNeM C sp) := by
  intro pins s σ H x y v u Q I rx ry h
  obtain ⟨a, dx, b, dy, vs, ws, rfl, rfl, sa, sb, q⟩ := h
  cases (show v = Value.ref a from rx)
  cases (show u = Value.ref b from ry)
  obtain ⟨_, sl', _, e1, _⟩ := slt_at I sa
  obtain ⟨_, sl2, _, e2, _⟩ := slt_at I sb
  obtain ⟨nm, qn, Nn, bs, hdct, sn, sub, ab, col, dd, k0, k1, k2, k3, k5, newId, g', hC, hN, he, hne, ⟨og, hg, hgc⟩, hf⟩ := N.ex
  obtain ⟨g, fd, ps, h1, h2, h3, bb, F⟩ := M.ex
  have eg : g' = g := by
    rw [hf] at h1
    injection h1 with h1
    injection h1 with h1
    injection h1
  subst eg
  have X0 := I.kIn
  have hns : s.heap.Ns Nn (s.heap.nsMap Nn) := .of_isNs (PySem.W.isNs_of_in X0 hN)
  obtain ⟨yB, hyB⟩ := obj_eq
  have Y : s.heap.OwnEqNoNe a C g' "object" [.type "object"] := ⟨_, og, nm, qn, Nn, bs, hdct, sn, sub, ab, col, dd, k0, k1, k2, k3, k5, newId, s.heap.nsMap Nn, _, e1, rfl, X0 _ _ hC, hns, ns_of X0 hns he, X0 _ _ hg, hgc, PySem.F.mro_object, hyB, PySem.W.nsMap_none_of_in X0 hN hne⟩
  obtain ⟨hh, g, d, t, os⟩ := s
  have room := hr.rm.mono hk
  refine compareOp_ne_ownEq PySem.F.cmp_object Y e2 rfl (hu_of hr.rm) ?_
  refine wpAny_mono (run_gA (us := [.ref a, .ref b]) (vs := [.ref a, .ref b]) F room.in1 hr.gd I.env0.in1 bb passAt0 I (.cons rfl (.cons rfl .nil)) q) (fun r s' z => ?_) fun _ _ x => x
  obtain ⟨z', H', I', rz, r', rfl, qz⟩ := z
  cases rz
  exact ⟨r', rfl, .bl (!r'), H', I', rfl, qz⟩
end
end Fs
namespace Fs
open PySem PySem.Spec PyProof.Rows L2 SlX
/-! ### a tuple that is known to its object: it may be asked for an index -/
section
variable {X : Cx} {o e : Expr} {to te : TE} {apos pos : Pos}
theorem call_tupleF : CallR X (.type "tuple") (fun xs H Q => ∃ p ys, xs = [.ref p] ∧ SqL X.K H p ys ∧ ∀ (l : Addr) (ob : Obj), H l = none → ob.dict = none → Q (.ref l) (upd H l (.frz ob (.tup ys)))) := by
  intro pins s σ H xs us Q I r h
  obtain ⟨p, ys, rfl, hq, q⟩ := h
  obtain ⟨u, rfl, rx⟩ := vals1 r
  cases rx
  obtain ⟨its, r', pl, hz⟩ := I.list hq
  have hlen := r'.length
  refine call_tuple_list pl.isList (fun h' kp => ?_) (by simp only [List.size_toArray] <;> omega)
  have I1 : Inv X pins σ H { s with heap := h' } := I.kept (t' := s.toks) kp
  have I2 : Inv X pins σ (upd H h'.objs.size (.frz { cls := .type "tuple", data := .seq its.toArray } (.tup ys))) { s with heap := h'.push { cls := .type "tuple", data := .seq its.toArray } } :=
    I1.laid (t' := s.toks) (fun b o e => Heap.get?_push_of_some _ e) (Nat.le_refl _) (show ObjOk X.prog X.w _ _ _ (.frz _ (.tup ys)) from ⟨Heap.get?_push_size _ rfl, hz, its, r', IsTup.new _ _⟩)
  exact ⟨.ref h'.objs.size, _, I2, rfl, q _ _ (I1.hok.fresh (Nat.le_refl _)) rfl⟩
/-- t.index(z) -/
def tTix (to te : TE) : TE := fun σ H Q => to σ H fun x H1 => ∃ (p : Addr) (ob : Obj) (zs : List Str), x = .ref p ∧ H1 p = some (.frz ob (.tup (zs.map V.str))) ∧ ob.dict = none ∧ te σ H1 fun y H2 => ∃ (z : Str) (j : Nat), y = .str z ∧ H2 p = some (.frz ob (.tup (zs.map V.str))) ∧ zs[j]? = some z ∧ (∀ m, m < j → zs[m]? ≠ some z) ∧ Q (.int (j : Nat)) H2
theorem pe_tindex (ho : PE X o to) (he : PE X e te) (hs : starEach [e] X.env = [(false, eval e X.env)] := by rfl) (hbase : attributeBase o "index" X.env (eval o X.env) = eval o X.env := by rfl) (hline : (apos.endLine == pos.line) = true := by rfl) :
    PE X (.Call (.Attribute o "index" apos) [e] [] pos) (tTix to te) := by
  refine ⟨fun pins s σ H Q I h => ?_⟩
  refine PySem.Call_method1 hbase hs hline (thn (ho.run pins s σ H _ I h) fun v s1 ⟨x, H1, I1, r1, p, ob, zs, ex, hp, hd, q1⟩ => ?_)
  subst ex
  cases r1
  obtain ⟨e1, _, its, rel, o', e2, hc, _⟩ := I1.hok _ _ hp
  rw [e1] at e2
  cases e2
  refine ⟨"tuple", _, PySem.F.plainAttrs_tuple, PySem.F.slot_tuple_index, PySem.F.type_tuple_index, ⟨ob, e1, hc⟩, (fun a ea => ?_), Calls.callWith_builtin rfl (Calls.evalArgs_plain (Calls.spliced_cons ?_))⟩
  · cases ea
    exact ⟨ob, e1, hd⟩
  · exact thn (he.run pins s1 σ H1 _ I1 q1) fun u s2 ⟨y, H2, I2, r2, z, j, ey, hp2, h1, h2, q2⟩ => Calls.spliced_nil (by
      subst ey
      exact mt_tup_index pins s2 σ H2 (.ref p) [.str z] _ [u] Q I2 rfl (.cons r2 .nil) ⟨p, zs, z, j, rfl, rfl, .inl (.inr ⟨ob, hp2⟩), h1, h2, q2⟩)
end
/-! ### the class Streams: what an instance holds -/
structure Sx (K : PySem.W.Frag) (mg : Str → Option Value) (C SO : Addr) : Prop where
  gC : mg "Streams" = some (.ref C)
  gO : mg "InvalidOperation" = some (.ref SO)
  kO : PySem.W.keepIn K (.ref SO) = true
  xO : PySem.W.excIn K SO [.type "ValueError", .type "Exception", .type "BaseException", .type "object"] "ValueError.__new__" = true
  bO : PySem.W.subIn K (.ref SO) (.type "BaseException") = some true
  tO : PySem.W.typeIn K (.ref SO) = some (.type "type")
  teO : PySem.W.exmOne K (.ref SO) (.ref SO) = some true
  sc : SCls K C
  si : SIsi K C
  t0 : ∃ p, Slot1 K C "own_sources" p 3
  t1 : ∃ p, Slot1 K C "own_sinks" p 2
  t2 : ∃ p, Slot1 K C "own_names" p 0
  t3 : ∃ p, Slot1 K C "own_signs" p 1
  sf : PySem.W.selfFirst K C = true
  kk : PySem.W.kitOne K (.ref C) (.ref C) = some true
  kl : PySem.W.kitOne K (.type "list") (.ref C) = some false
  nf : PySem.W.notFirst K C (.ref C) = true
  nl : PySem.W.notFirst K C (.type "list") = true
abbrev Parts := List (Str × Str)
def okP (ps : Parts) : Prop := ∀ p ∈ ps, nameL (cps p.1) = true ∧ signsL (cps p.2) = true
def dPair (p : Str × Str) : PyData := .tuple [.str p.1, .str p.2]
def dParts (ps : Parts) : PyData := .tuple (ps.map dPair)
def namesP (ps : Parts) : List Str := ps.map (·.1)
def kvsOf (ps : Parts) : List (Key × V) := ps.map fun p => (.inr p.1, .str p.2)
def StAt (H : Hp) (x C : Addr) (ps qs : Parts) : Prop := ∃ dx t1 t2 t3 t4 : Addr, Slt H x C dx [some (.ref t3), some (.ref t4), some (.ref t2), some (.ref t1)] ∧ PartsT H t1 ps ∧ PartsT H t2 qs ∧
  (∃ ob : Obj, ob.dict = none ∧ H t3 = some (.frz ob (.tup ((namesP (ps ++ qs)).map V.str)))) ∧ H t4 = some (.dK (kvsOf (ps ++ qs)))
theorem slt_mono {H H' : Hp} {a C dx : Addr} {vs : List (Option V)} (h : Slt H a C dx vs) (e : Same H H') : Slt H' a C dx vs := by
  rcases h with ⟨h1, h2⟩ | ⟨h1, h2⟩
  · exact .inl ⟨e _ _ h1, h2⟩
  · exact .inr ⟨e _ _ h1, e _ _ h2⟩
theorem StAt.le {H H' : Hp} {x C : Addr} {ps qs : Parts} (e : Same H H') (h : StAt H x C ps qs) : StAt H' x C ps qs := by
  obtain ⟨dx, t1, t2, t3, t4, a, b, c, ⟨ob, hd, d⟩, f⟩ := h
  exact ⟨dx, t1, t2, t3, t4, slt_mono a e, b.le (Tle.of_same e), c.le (Tle.of_same e), ⟨ob, hd, e _ _ d⟩, e _ _ f⟩
theorem okP_part {ps : Parts} (h : okP ps) : ∀ e ∈ ps.map dPair, isPartD e = true := fun e he => by
  obtain ⟨p, hp, rfl⟩ := List.mem_map.mp he
  obtain ⟨h1, h2⟩ := h p hp
  show (nameL (cps p.1) && signsL (cps p.2)) = true
  rw [h1, h2]; rfl
theorem are_dParts {ps : Parts} {n : Nat} (h : okP ps) : arePartsD n (dParts ps) = (decide (n ≤ ps.length) && decide (ps.length ≤ 3)) := by
  show (decide (n ≤ (ps.map dPair).length) && decide ((ps.map dPair).length ≤ 3) && (ps.map dPair).all isPartD) = _
  rw [List.length_map, List.all_eq_true.mpr (okP_part h), Bool.and_true]
theorem names_dParts (ps : Parts) : namesD (dParts ps) = namesP ps := by
  show (ps.map dPair).map nameOf = _
  rw [List.map_map]; rfl
/-- whether they are streams -/
def isLet (ps qs : Parts) : Bool := decide (1 ≤ ps.length) && decide (ps.length ≤ 3) && decide (qs.length ≤ 3) && decide (namesP (ps ++ qs)).Nodup
theorem are_let {ps qs : Parts} (h1 : okP ps) (h2 : okP qs) : areStreamsD (dParts ps) (dParts qs) = isLet ps qs := by
  unfold areStreamsD isLet
  rw [are_dParts h1, are_dParts h2, names_dParts, names_dParts, decide_eq_true (Nat.zero_le _), Bool.true_and]
  unfold namesP
  rw [List.map_append]
structure Fine (ps qs : Parts) : Prop where
  lt : isLet ps qs = true
  o1 : okP ps
  o2 : okP qs
theorem Fine.out {ps qs : Parts} (h : Fine ps qs) : 1 ≤ ps.length ∧ ps.length ≤ 3 ∧ qs.length ≤ 3 ∧ (namesP (ps ++ qs)).Nodup := by
  have := h.lt
  unfold isLet at this
  simp only [Bool.and_eq_true, decide_eq_true_eq] at this
  exact ⟨this.1.1.1, this.1.1.2, this.1.2, this.2⟩
theorem Good.fine {m : Nat} {ps qs : Parts} (g : Good m ps qs) (hm : m ≤ 3) : Fine ps qs := by
  refine ⟨?_, fun p hp => g.ok p (List.mem_append_left _ hp), fun p hp => g.ok p (List.mem_append_right _ hp)⟩
  have := g.le1
  have := g.le2
  unfold isLet namesP
  rw [decide_eq_true g.one, decide_eq_true (show ps.length ≤ 3 by omega), decide_eq_true (show qs.length ≤ 3 by omega), decide_eq_true g.nd]; rfl
theorem pairs_dx0 {H : Hp} : ∀ {as : List Addr} {ps : Parts}, Paired (PairAt H) as ps → okP ps → DxAll H (as.map V.ref) (ps.map dPair)
  | _, _, .nil, _ => .nil
  | _, _, .cons r t, h => by
    obtain ⟨h1, h2⟩ := h _ (List.mem_cons_self ..)
    exact .cons (.tup r (.cons (.str _ ((lo_name h1).tok (by decide))) (.cons (.str _ ((lo_signs h2).tok (by decide))) .nil))) (pairs_dx0 t fun p hp => h p (List.mem_cons_of_mem _ hp))
theorem parts_dx0 {H : Hp} {t : Addr} {ps : Parts} (h : PartsT H t ps) (ok : okP ps) : Dx H (.ref t) (dParts ps) := by
  obtain ⟨as, e, pr⟩ := h
  exact .tup e (pairs_dx0 pr ok)
theorem slH_same {H0 H : Hp} {a C dx : Addr} {vs : List (Option V)} (e : Same H0 H) (h1 : H0 a = none) (h2 : H0 dx = none) : Same H0 (slH H a C dx vs) := fun b o q => by
  rw [slH_ne (ne_of_none q h1) (ne_of_none q h2)]; exact e b o q
theorem paired_app {α β : Type} {F : α → β → Prop} : ∀ {l l' : List α} {m m' : List β}, Paired F l m → Paired F l' m' → Paired F (l ++ l') (m ++ m')
  | _, _, _, _, .nil, h => h
  | _, _, _, _, .cons r t, h => .cons r (paired_app t h)
theorem paired_get {α β : Type} {F : α → β → Prop} : ∀ {l : List α} {m : List β} {i : Nat} {x : α}, Paired F l m → l[i]? = some x → ∃ y, m[i]? = some y ∧ F x y
  | _, _, i, x, .nil, h => by simp at h
  | _, _, 0, x, .cons (b := y) r t, h => by
    simp only [List.getElem?_cons_zero, Option.some.injEq] at h
    subst h
    exact ⟨y, rfl, r⟩
  | _, _, i + 1, x, .cons r t, h => by
    simp only [List.getElem?_cons_succ] at h ⊢
    exact paired_get t h
/-- the sum of two tuples of parts: one of them, or a new one -/
theorem parts_cat {K : PySem.W.Frag} {H : Hp} {a b : Addr} {ps qs : Parts} {Q : VK} (ha : PartsT H a ps) (hb : PartsT H b qs) (hz : ps.length + qs.length ≤ 1000) (q : ∀ (t : Addr) (H' : Hp), Same H H' → PartsT H' t (ps ++ qs) → Q (.ref t) H') : rCatA K (.ref a) (.ref b) H Q := by
  obtain ⟨as, e1, p1⟩ := ha
  obtain ⟨bs, e2, p2⟩ := hb
  refine cat_get e1 e2 (by rw [List.length_map, List.length_map, paired_len p1, paired_len p2, sizeLine_eq]; omega) fun t H' e h => q t H' e ⟨as ++ bs, by rw [h, List.map_append], pairs_le (Tle.of_same e) (paired_app p1 p2)⟩
theorem nodup_at {α : Type} : ∀ {l : List α} {i j : Nat} {x : α}, l.Nodup → l[i]? = some x → l[j]? = some x → i = j
  | [], i, _, _, _, h, _ => by simp at h
  | a :: l, 0, 0, _, _, _, _ => rfl
  | a :: l, 0, j + 1, x, nd, h, g => by
    simp only [List.getElem?_cons_zero, Option.some.injEq] at h
    simp only [List.getElem?_cons_succ] at g
    subst h
    exact absurd (List.mem_of_getElem? g) (List.nodup_cons.mp nd).1
  | a :: l, i + 1, 0, x, nd, h, g => by
    simp only [List.getElem?_cons_zero, Option.some.injEq] at g
    simp only [List.getElem?_cons_succ] at h
    subst g
    exact absurd (List.mem_of_getElem? h) (List.nodup_cons.mp nd).1
  | a :: l, i + 1, j + 1, x, nd, h, g => by
    simp only [List.getElem?_cons_succ] at h g
    rw [nodup_at (List.nodup_cons.mp nd).2 h g]
theorem putK_new' {kvs : List (Key × V)} {x : Str} {v : V} (h : ∀ kv ∈ kvs, kv.1 ≠ (.inr x : Key)) : putK kvs (.inr x : Key) v = kvs ++ [(.inr x, v)] := by
  unfold putK
  rw [if_neg]
  intro q
  obtain ⟨kv, h1, h2⟩ := List.any_eq_true.mp q
  exact h kv h1 (of_decide_eq_true h2)
section
variable {P : Program} {w : World} {K : PySem.W.Frag} {mg : Str → Option Value} {base : Heap} {C SO : Addr}
/-- __init__, for streams -/
def spInit (C : Addr) : Sp := fun vs H Q _ => ∃ (x dx t1 t2 : Addr) (ps qs : Parts) (H0 : Hp), vs = [.ref x, .ref t1, .ref t2] ∧ H x = some (.ins C dx []) ∧ dx ≠ x ∧ H0 x = none ∧ H0 dx = none ∧ Same H0 H ∧ PartsT H0 t1 ps ∧ PartsT H0 t2 qs ∧ Fine ps qs ∧
  ∀ H' : Hp, Same H0 H' → StAt H' x C ps qs → Q .non H'
abbrev s_init : Stmt := inClass (top 20) 1
theorem sc_init : FnScope ["self", "sources", "sinks", "name", "signs"] ["self", "sources", "sinks"] (defScope s_init) := ⟨rfl, rfl, rfl, by decide +kernel, rfl, by decide +kernel, by decide +kernel⟩
theorem fn_init {f : Addr} {fd : FuncData} (T : Bs mg) (Z : Sx K mg C SO) (F : L2.Fun K "__init__" "Streams.__init__" s_init f fd) (C_p_streams : Cal P w K mg base 4 "are_streams" spStr) : FnG P w K mg base CX0 5 f fd ["self", "sources", "sinks"] (spInit C) := by
  refine FnG.by F sc_init (fun vs H Q E h => ?_) (fun cdv A outer s H vs Q E room gd h => ?_)
  · obtain ⟨x, dx, t1, t2, ps, qs, H0, rfl, _⟩ := h
    rfl
  · have hr : Rm 4 _ := ⟨room, gd⟩
    obtain ⟨x, dx, a, b, ps, qs, H0, rfl, hx, hne, h0x, h0d, sm, ha, hb, fine, kt⟩ := h
    refine ⟨_, pss_cons (ps_if (pt_not (pt_val (pc C_p_streams hr (pa_cons (pv 1) (pa_cons (pv 2) pa_nil)))))
        (pss_one ps_never)
        pss_nil)
      (pss_cons (ps_sl (pv 0) (pv 1))
      (pss_cons (ps_sl (pv 0) (pv 2))
      (pss_cons (ps_sl (pv 0) (pt call_tupleF T.z_tuple (pa_cons (pe_lc (own := [("name", 3), ("signs", 4)]) (te := (tVar 3)) (g := gTup K 2 (gCons (gName 3) (gCons (gName 4) gNil))) rfl sc_init.nd (pi_tup (pe_op op_catA (pv 1) (pv 2))) (blkOk_by (N := ["self", "sources", "sinks", "name", "signs"]) (sc := defScope s_init) (by decide +kernel)) (fun _ _ _ _ _ => (pg_tup rfl (pgs_cons (pg_name (i := 3) sc_init.nd rfl (Or.inl rfl)) (pgs_cons (pg_name (i := 4) sc_init.nd rfl (Or.inl rfl)) pgs_nil)))) (fun _ _ _ _ _ => pts_nil) (fun _ _ _ _ _ => (pv 3))) pa_nil)))
      (pss_one (ps_sl (pv 0) (pe_dc (own := [("name", 3), ("signs", 4)]) (tk := (tVar 3)) (tv := (tVar 4)) (g := gTup K 2 (gCons (gName 3) (gCons (gName 4) gNil))) rfl sc_init.nd (pi_tup (pe_op op_catA (pv 1) (pv 2))) (blkOk_by (N := ["self", "sources", "sinks", "name", "signs"]) (sc := defScope s_init) (by decide +kernel)) (fun _ _ _ _ _ => (pg_tup rfl (pgs_cons (pg_name (i := 3) sc_init.nd rfl (Or.inl rfl)) (pgs_cons (pg_name (i := 4) sc_init.nd rfl (Or.inl rfl)) pgs_nil)))) (fun _ _ _ _ _ => pts_nil) (fun _ _ _ _ _ => (pv 3)) (fun _ _ _ _ _ => (pv 4)))))))), ?_⟩
    obtain ⟨p0, t0⟩ := Z.t0
    obtain ⟨p1, t1⟩ := Z.t1
    obtain ⟨p2, t2⟩ := Z.t2
    obtain ⟨p3, t3⟩ := Z.t3
    obtain ⟨l1, l3, m3, nd⟩ := fine.out
    have okA : okP (ps ++ qs) := fun p hp => (List.mem_append.mp hp).elim (fine.o1 p) (fine.o2 p)
    refine ⟨_, rfl, _, rfl, .ref a, .ref b, _, _, rfl, (parts_dx0 ha fine.o1).le sm, (parts_dx0 hb fine.o2).le sm, fun H1 e1 => ⟨_, rfl, ?_⟩⟩
    rw [are_let fine.o1 fine.o2, fine.lt]
    have s1 := sm.trans e1
    refine iteF ?_
    refine ⟨_, rfl, _, rfl, x, C, dx, p0, [], 3, rfl, .inl ⟨e1 _ _ hx, rfl⟩, Z.sc, t0, ?_⟩
    refine ⟨_, rfl, _, rfl, x, C, dx, p1, [none, none, none, some (.ref a)], 2, rfl, slH_slt hne, Z.sc, t1, ?_⟩
    rw [slH_twice hne]
    have e2 : putS 2 (V.ref b) [none, none, none, some (.ref a)] = [none, none, some (.ref b), some (.ref a)] := rfl
    rw [e2]
    have s3 : Same H0 (slH H1 x C dx [none, none, some (.ref b), some (.ref a)]) := slH_same s1 h0x h0d
    have x3 : Slt (slH H1 x C dx [none, none, some (.ref b), some (.ref a)]) x C dx [none, none, some (.ref b), some (.ref a)] := slH_slt hne
    generalize slH H1 x C dx [none, none, some (.ref b), some (.ref a)] = H3 at s3 x3
    refine ⟨_, rfl, _, rfl, ?_⟩
    refine parts_cat (ha.le (Tle.of_same s3)) (hb.le (Tle.of_same s3)) (by omega) fun t H4 e4 ht => ?_
    obtain ⟨as, ht, pr⟩ := ht
    have las := paired_len pr
    rw [List.length_append] at las
    refine ⟨t, rfl, ⟨_, SqT.of ht⟩, fun D hD => ?_⟩
    refine lc_tup (K := K) (a := t) (xs := as.map V.ref) (fun i H5 => Same H4 H5 ∧ H5 D = some (.lst (((namesP (ps ++ qs)).take i).map V.str))) ?_ ?_ ?_ ?_
    · exact ⟨same_upd (Same.refl H4) hD, upd_same⟩
    · rintro i H5 _ ⟨g1, _⟩
      exact SqT.of (g1 _ _ ht)
    · rintro i z H5 hz ⟨g1, g2⟩
      rw [List.getElem?_map] at hz
      obtain ⟨q, hq, rfl⟩ := Option.map_eq_some_iff.mp hz
      obtain ⟨⟨n, sg⟩, hn, hqa⟩ := paired_get pr hq
      have hnn : (namesP (ps ++ qs))[i]? = some n := by unfold namesP; rw [List.getElem?_map, hn]; rfl
      refine ⟨q, _, rfl, SqT.of (g1 _ _ hqa), rfl, _, _, rfl, _, _, rfl, rfl, rfl, _, rfl, _, g2, ?_, same_mut g1 hD, ?_⟩
      · have h9 : ((namesP (ps ++ qs)).take i).length ≤ (namesP (ps ++ qs)).length := List.length_take_le' ..
        unfold namesP at h9
        rw [List.length_map, List.length_append] at h9
        rw [List.length_map, sizeLine_eq]; unfold namesP; omega
      · rw [upd_same, take_snoc hnn, List.map_append]; rfl
    rintro H5 ⟨g1, g2⟩
    rw [List.length_map] at g2
    have lnp : (namesP (ps ++ qs)).length = as.length := by unfold namesP; rw [List.length_map, List.length_append]; omega
    rw [List.take_of_length_le (by omega)] at g2
    refine ⟨D, _, rfl, SqL.of g2, fun n1 ob hn1 hob => ?_⟩
    have k6 : (upd H5 n1 (.frz ob (.tup ((namesP (ps ++ qs)).map V.str)))) n1 = _ := upd_same
    have e6 : Same H3 (upd H5 n1 (.frz ob (.tup ((namesP (ps ++ qs)).map V.str)))) := (e4.trans g1).trans (same_upd (Same.refl H5) hn1)
    generalize upd H5 n1 (.frz ob (.tup ((namesP (ps ++ qs)).map V.str))) = H6 at e6 k6
    refine ⟨_, rfl, x, C, dx, p2, _, 0, rfl, slt_mono x3 e6, Z.sc, t2, ?_⟩
    have e7 : putS 0 (V.ref n1) [none, none, some (.ref b), some (.ref a)] = [some (.ref n1), none, some (.ref b), some (.ref a)] := rfl
    rw [e7]
    have s7 : Same H0 (slH H6 x C dx [some (.ref n1), none, some (.ref b), some (.ref a)]) := slH_same (s3.trans e6) h0x h0d
    have x7 : Slt (slH H6 x C dx [some (.ref n1), none, some (.ref b), some (.ref a)]) x C dx [some (.ref n1), none, some (.ref b), some (.ref a)] := slH_slt hne
    have n1x : n1 ≠ x := by
      rcases x3 with ⟨_, q⟩ | ⟨q, _⟩
      · cases q
      · exact (ne_of_none ((e4.trans g1) _ _ q) hn1).symm
    have n1d : n1 ≠ dx := by
      rcases x3 with ⟨_, q⟩ | ⟨_, q⟩
      · cases q
      · exact (ne_of_none ((e4.trans g1) _ _ q) hn1).symm
    have k7 : (slH H6 x C dx [some (.ref n1), none, some (.ref b), some (.ref a)]) n1 = _ := (slH_ne n1x n1d).trans k6
    generalize slH H6 x C dx [some (.ref n1), none, some (.ref b), some (.ref a)] = H7 at s7 x7 k7
    refine ⟨_, rfl, _, rfl, ?_⟩
    refine parts_cat (ha.le (Tle.of_same s7)) (hb.le (Tle.of_same s7)) (by omega) fun t' H8 e8 ht' => ?_
    obtain ⟨bs, ht', pr'⟩ := ht'
    have lbs := paired_len pr'
    rw [List.length_append] at lbs
    refine ⟨t', rfl, ⟨_, SqT.of ht'⟩, fun D' hD' => ?_⟩
    refine dc_tup (K := K) (a := t') (xs := bs.map V.ref) (fun i H9 => Same H8 H9 ∧ H9 D' = some (.dK (kvsOf ((ps ++ qs).take i)))) ?_ ?_ ?_ ?_
    · exact ⟨same_upd (Same.refl H8) hD', upd_same⟩
    · rintro i H9 _ ⟨g1, _⟩
      exact SqT.of (g1 _ _ ht')
    · rintro i z H9 hz ⟨g1, g2⟩
      rw [List.getElem?_map] at hz
      obtain ⟨q, hq, rfl⟩ := Option.map_eq_some_iff.mp hz
      obtain ⟨⟨n, sg⟩, hn, hqa⟩ := paired_get pr' hq
      have hi : i < bs.length := (List.getElem?_eq_some_iff.mp hq).1
      refine ⟨q, _, rfl, SqT.of (g1 _ _ hqa), rfl, _, _, rfl, _, _, rfl, rfl, rfl, _, rfl, _, rfl, _, .inr n, rfl, g2, ?_, same_mut g1 hD', ?_⟩
      · have h9 : ((ps ++ qs).take i).length ≤ i := List.length_take_le ..
        unfold kvsOf
        rw [List.length_map, sizeLine_eq]; omega
      · rw [upd_same, take_snoc hn, putK_new']
        · unfold kvsOf; rw [List.map_append]; rfl
        · intro kv hkv e
          unfold kvsOf at hkv
          obtain ⟨p, hp, rfl⟩ := List.mem_map.mp hkv
          have e : (Sum.inr p.1 : Key) = Sum.inr n := e
          injection e with e
          obtain ⟨j, hj, hjp⟩ := List.mem_take_iff_getElem.mp hp
          have hj' : j < i := by omega
          have hne : (namesP (ps ++ qs))[j]? = (namesP (ps ++ qs))[i]? := by
            unfold namesP
            rw [List.getElem?_map, List.getElem?_map, hn, List.getElem?_eq_getElem (by omega : j < (ps ++ qs).length), hjp]
            show some p.1 = some n
            rw [e]
          have hni : (namesP (ps ++ qs))[i]? = some n := by unfold namesP; rw [List.getElem?_map, hn]; rfl
          have := nodup_at nd (hne.trans hni) hni
          omega
    · rintro H9 ⟨g1, g2⟩
      rw [List.length_map] at g2
      rw [List.take_of_length_le (by rw [List.length_append]; omega)] at g2
      have e9 := e8.trans g1
      refine ⟨_, rfl, x, C, dx, p3, _, 1, rfl, slt_mono x7 e9, Z.sc, t3, ?_⟩
      have e10 : putS 1 (V.ref D') [some (.ref n1), none, some (.ref b), some (.ref a)] = [some (.ref n1), some (.ref D'), some (.ref b), some (.ref a)] := rfl
      rw [e10]
      have s10 : Same H0 (slH H9 x C dx [some (.ref n1), some (.ref D'), some (.ref b), some (.ref a)]) := slH_same (s7.trans e9) h0x h0d
      have Dx' : D' ≠ x := by
        rcases x7 with ⟨_, q⟩ | ⟨q, _⟩
        · cases q
        · exact (ne_of_none (e8 _ _ q) hD').symm
      have Dd : D' ≠ dx := by
        rcases x7 with ⟨_, q⟩ | ⟨_, q⟩
        · cases q
        · exact (ne_of_none (e8 _ _ q) hD').symm
      refine kt _ s10 ⟨dx, a, b, n1, D', slH_slt hne, ha.le (Tle.of_same s10), hb.le (Tle.of_same s10), ?_, ?_⟩
      · exact ⟨ob, hob, by rw [slH_ne n1x n1d]; exact e9 _ _ k7⟩
      · rw [slH_ne Dx' Dd]; exact g2
end
end Fs
namespace Fs
open PySem PySem.Spec PyProof.Rows L2 SlX
def inD (ns : List Str) : PyData → Bool
  | .str z => decide (z ∈ ns)
  | _ => false
theorem valV_kvs (z : Str) : ∀ ps : Parts, (valV (kvsOf ps) (.inr z : Key)).isSome = decide (z ∈ namesP ps)
  | [] => by simp [kvsOf, namesP, valV]
  | (n, sg) :: ps => by
    have ih := valV_kvs z ps
    by_cases e : n = z
    · subst e
      have h1 : valV (kvsOf ((n, sg) :: ps)) (.inr n : Key) = some (.str sg) := valV_pos rfl
      rw [h1]
      have : n ∈ namesP ((n, sg) :: ps) := List.mem_cons_self ..
      rw [decide_eq_true this]; rfl
    · have h1 : valV (kvsOf ((n, sg) :: ps)) (.inr z : Key) = valV (kvsOf ps) (.inr z : Key) := valV_neg (by
        intro q
        have q : (Sum.inr n : Key) = Sum.inr z := q
        injection q with q
        exact e q)
      rw [h1, ih]
      have : (z ∈ namesP ((n, sg) :: ps)) ↔ z ∈ namesP ps := by
        unfold namesP
        rw [List.map_cons, List.mem_cons]
        exact ⟨fun h => h.resolve_left fun q => e q.symm, .inr⟩
      by_cases c : z ∈ namesP ps
      · rw [decide_eq_true c, decide_eq_true (this.mpr c)]
      · rw [decide_eq_false c, decide_eq_false (fun h => c (this.mp h))]
theorem valV_at {n sg : Str} : ∀ {ps : Parts}, (namesP ps).Nodup → (n, sg) ∈ ps → valV (kvsOf ps) (.inr n : Key) = some (.str sg)
  | (m, tg) :: ps, nd, h => by
    have nd' := List.nodup_cons.mp nd
    rcases List.mem_cons.mp h with e | h
    · injection e with e1 e2
      subst e1 e2
      exact valV_pos rfl
    · have hn : n ∈ namesP ps := List.mem_map.mpr ⟨_, h, rfl⟩
      have hne : m ≠ n := fun e => nd'.1 (by subst e; exact hn)
      have h1 : valV (kvsOf ((m, tg) :: ps)) (.inr n : Key) = valV (kvsOf ps) (.inr n : Key) := valV_neg (by
        intro q
        have q : (Sum.inr m : Key) = Sum.inr n := q
        injection q with q
        exact hne q)
      rw [h1]
      exact valV_at nd'.2 h
section
variable {P : Program} {w : World} {K : PySem.W.Frag} {mg : Str → Option Value} {base : Heap} {C SO : Addr} {f : Addr} {fd : FuncData}
/-- a def of the class from its body (nothing is raised) -/
theorem fn_by {x qual : Str} {st : Stmt} {N ps : List Str} {k : Nat} {sp : Sp} (F : L2.Fun K x qual st f fd) (S : FnScope N ps (defScope st)) (lens : ∀ vs H Q E, sp vs H Q E → vs.length = ps.length)
    (body : ∀ (cdv : Value) (A : Around) (outer : List Env) (s : Shared) (H : Hp) (vs : List V) (Q : VK) (E : XK), Rm k (A.deeper (envOfC qual (defScope st) s.heap.objs.size f cdv)) → sp vs H Q E →
      ∃ t, PSs (cxOf CX0 P w K mg base N qual (defScope st) f cdv A outer s H E).nox (defBody st) t ∧ t { nx := fun _ H' => Q .non H', rt := Q } (start N vs) H) : FnG P w K mg base CX0 (k + 1) f fd ps sp := by
  refine FnG.by F S lens (fun cdv A outer s H vs Q E room guards want => ?_)
  obtain ⟨t, d, r⟩ := body cdv A outer s H vs Q E ⟨room, guards⟩ want
  exact ⟨t, d.nox, r⟩
def spCont (C : Addr) : Sp := fun vs H Q _ => ∃ (x : Addr) (v : V) (d : PyData) (ps qs : Parts), vs = [.ref x, v] ∧ StAt H x C ps qs ∧ Dx H v d ∧ ∀ H', Same H H' → Q (.bl (inD (namesP (ps ++ qs)) d)) H'
abbrev s_m_contains : Stmt := inClass (top 20) 16
theorem sc_m_contains : FnScope ["self", "value"] ["self", "value"] (defScope s_m_contains) := ⟨rfl, rfl, rfl, by decide +kernel, rfl, by decide +kernel, by decide +kernel⟩
theorem fn_contains (T : Bs mg) (Z : Sx K mg C SO) (F : L2.Fun K "__contains__" "Streams.__contains__" s_m_contains f fd) : FnG P w K mg base CX0 1 f fd ["self", "value"] (spCont C) := by
  refine fn_by F sc_m_contains (fun vs H Q E h => ?_) (fun cdv A outer s H vs Q E hr h => ?_)
  · obtain ⟨x, v, d, ps, qs, rfl, _⟩ := h
    rfl
  · obtain ⟨x, v, d, ps, qs, rfl, st, hd, k⟩ := h
    refine ⟨_, pss_one (ps_ret (pe_and (pb call_isi T.z_isinstance (pa_cons (pv 1) (pa_cons (pe_bltn (v := .ty "str") (u := .type "str") rfl T.z_str (by decide +kernel) rfl) pa_nil))) (pe_one (pe_cmp (pc_din (hu_of hr.rm) (pv 1) (pe_sl (pv 0))))))), ?_⟩
    obtain ⟨n, ty, h1, _⟩ := tyx_of (K := K) hd
    refine ⟨_, rfl, v, .ty "str", _, _, _, rfl, .ty "str", ty, kit_ty h1, _, rfl, ?_⟩
    obtain ⟨dx, t1, t2, t3, t4, sl, _, _, _, k4⟩ := st
    obtain ⟨p3, s3⟩ := Z.t3
    cases hd with
    | str z hz =>
      refine iteT ?_
      refine ⟨_, rfl, _, rfl, x, C, dx, p3, _, 1, _, rfl, sl, Z.sc, s3, rfl, t4, _, rfl, DGet.k (k := .inr z) k4, ?_⟩
      rw [valV_kvs]
      exact k H (Same.refl H)
    | _ => exact iteF (k H (Same.refl H))
def spLen (C : Addr) : Sp := fun vs H Q _ => ∃ (x : Addr) (ps qs : Parts), vs = [.ref x] ∧ StAt H x C ps qs ∧ ∀ H', Same H H' → Q (.int ((ps ++ qs).length : Nat)) H'
abbrev s_m_len : Stmt := inClass (top 20) 17
theorem sc_m_len : FnScope ["self"] ["self"] (defScope s_m_len) := ⟨rfl, rfl, rfl, by decide +kernel, rfl, by decide +kernel, by decide +kernel⟩
theorem fn_len (T : Bs mg) (Z : Sx K mg C SO) (F : L2.Fun K "__len__" "Streams.__len__" s_m_len f fd) : FnG P w K mg base CX0 1 f fd ["self"] (spLen C) := by
  refine fn_by F sc_m_len (fun vs H Q E h => ?_) (fun cdv A outer s H vs Q E hr h => ?_)
  · obtain ⟨x, ps, qs, rfl, _⟩ := h
    rfl
  · obtain ⟨x, ps, qs, rfl, st, k⟩ := h
    refine ⟨_, pss_one (ps_ret (pb call_len3 T.z_len (pa_cons (pe_sl (pv 0)) pa_nil))), ?_⟩
    obtain ⟨dx, t1, t2, t3, t4, sl, _, _, ⟨ob, _, k3⟩, _⟩ := st
    obtain ⟨p2, s2⟩ := Z.t2
    refine ⟨_, rfl, x, C, dx, p2, _, 0, _, rfl, sl, Z.sc, s2, rfl, _, _, rfl, .inl ⟨t3, rfl, .inr (.inl (.inr ⟨ob, k3⟩))⟩, ?_⟩
    have := k H (Same.refl H)
    unfold namesP
    rw [List.length_map, List.length_map]
    exact this
def spKnown (C : Addr) : Sp := fun vs H Q _ => ∃ (x : Addr) (n : Str) (ps qs : Parts), vs = [.ref x, .str n] ∧ StAt H x C ps qs ∧ Lo 9 n ∧ n ∈ namesP (ps ++ qs) ∧ ∀ H', Same H H' → Q .non H'
abbrev s_p_known : Stmt := top 22
theorem sc_p_known : FnScope ["streams", "name"] ["streams", "name"] (defScope s_p_known) := ⟨rfl, rfl, rfl, by decide +kernel, rfl, by decide +kernel, by decide +kernel⟩
theorem cal_p_known (D : Df K mg "require_known" s_p_known ["streams", "name"]) (M_contains : Mth P w K mg base CX0 C "__contains__" 1 (spCont C)) : Cal P w K mg base 2 "require_known" (spKnown C) := by
  refine D.cal sc_p_known (fun vs H Q E h => ?_) (fun f cdv A outer s H vs Q E hr h => ?_)
  · obtain ⟨x, n, ps, qs, rfl, _⟩ := h
    rfl
  · obtain ⟨x, n, ps, qs, rfl, st, lo, hn, k⟩ := h
    refine ⟨_, pss_one (ps_if (pt_cmpR (op_notInM M_contains hr) (pv 1) (pv 0) (by rfl))
        (pss_one ps_never)
        pss_nil), ?_⟩
    have st' := st
    obtain ⟨dx, t1, t2, t3, t4, sl, _⟩ := st'
    refine ⟨_, rfl, _, rfl, x, dx, _, rfl, sl, x, .str n, .str n, ps, qs, rfl, st, .str n (lo.tok (by decide)), fun H' e => ⟨_, rfl, _, rfl, ?_⟩⟩
    rw [show inD (namesP (ps ++ qs)) (.str n) = true from decide_eq_true hn]
    refine iteF ?_
    exact k H' e
def spSignsOf (C : Addr) : Sp := fun vs H Q _ => ∃ (x : Addr) (n sg : Str) (ps qs : Parts), vs = [.ref x, .str n] ∧ StAt H x C ps qs ∧ Lo 9 n ∧ (namesP (ps ++ qs)).Nodup ∧ (n, sg) ∈ ps ++ qs ∧ ∀ H', Same H H' → Q (.str sg) H'
theorem mem_names {n sg : Str} {ps : Parts} (h : (n, sg) ∈ ps) : n ∈ namesP ps := List.mem_map.mpr ⟨_, h, rfl⟩
abbrev s_m_signs_of : Stmt := inClass (top 20) 5
theorem sc_m_signs_of : FnScope ["self", "name"] ["self", "name"] (defScope s_m_signs_of) := ⟨rfl, rfl, rfl, by decide +kernel, rfl, by decide +kernel, by decide +kernel⟩
theorem fn_signs_of (Z : Sx K mg C SO) (F : L2.Fun K "signs_of" "Streams.signs_of" s_m_signs_of f fd) (C_p_known : Cal P w K mg base 2 "require_known" (spKnown C)) : FnG P w K mg base CX0 3 f fd ["self", "name"] (spSignsOf C) := by
  refine fn_by F sc_m_signs_of (fun vs H Q E h => ?_) (fun cdv A outer s H vs Q E hr h => ?_)
  · obtain ⟨x, n, sg, ps, qs, rfl, _⟩ := h
    rfl
  · obtain ⟨x, n, sg, ps, qs, rfl, st, lo, nd, hm, k⟩ := h
    refine ⟨_, pss_cons (ps_expr (pc C_p_known hr (pa_cons (pv 0) (pa_cons (pv 1) pa_nil))))
      (pss_one (ps_ret (pe_dget (hu_of hr.rm) (pe_sl (pv 0)) (pv 1) (fun _ _ => rfl)))), ?_⟩
    obtain ⟨p3, s3⟩ := Z.t3
    refine ⟨_, rfl, _, rfl, x, n, ps, qs, rfl, st, lo, mem_names hm, fun H1 e1 => ?_⟩
    obtain ⟨dx, t1, t2, t3, t4, sl, _, _, _, k4⟩ := st.le e1
    exact ⟨_, rfl, x, C, dx, p3, _, 1, _, rfl, sl, Z.sc, s3, rfl, _, rfl, t4, _, rfl, (by rw [← valV_at nd hm]; exact DGet.k (k := .inr n) k4), k H1 e1⟩
/-- the place of a name -/
def spPlace (C : Addr) (g : Nat → Nat → V) : Sp := fun vs H Q _ => ∃ (x : Addr) (n sg : Str) (j : Nat) (ps qs : Parts), vs = [.ref x, .str n] ∧ StAt H x C ps qs ∧ Lo 9 n ∧ (namesP (ps ++ qs)).Nodup ∧ (ps ++ qs)[j]? = some (n, sg) ∧ ∀ H', Same H H' → Q (g j ps.length) H'
theorem first_at {ns : List Str} {j : Nat} {n : Str} (nd : ns.Nodup) (h : ns[j]? = some n) : ∀ m, m < j → ns[m]? ≠ some n := fun m hm e => by
  have := nodup_at nd e h
  omega
abbrev s_m_is_source : Stmt := inClass (top 20) 6
theorem sc_m_is_source : FnScope ["self", "name"] ["self", "name"] (defScope s_m_is_source) := ⟨rfl, rfl, rfl, by decide +kernel, rfl, by decide +kernel, by decide +kernel⟩
theorem fn_is_source (T : Bs mg) (Z : Sx K mg C SO) (F : L2.Fun K "is_source" "Streams.is_source" s_m_is_source f fd) (C_p_known : Cal P w K mg base 2 "require_known" (spKnown C)) : FnG P w K mg base CX0 3 f fd ["self", "name"] (spPlace C fun j m => .bl (decide (j < m))) := by
  refine fn_by F sc_m_is_source (fun vs H Q E h => ?_) (fun cdv A outer s H vs Q E hr h => ?_)
  · obtain ⟨x, n, sg, j, ps, qs, rfl, _⟩ := h
    rfl
  · obtain ⟨x, n, sg, j, ps, qs, rfl, st, lo, nd, hm, k⟩ := h
    refine ⟨_, pss_cons (ps_expr (pc C_p_known hr (pa_cons (pv 0) (pa_cons (pv 1) pa_nil))))
      (pss_one (ps_ret (pe_cmpR op_lt (pe_tindex (pe_sl (pv 0)) (pv 1)) (pb call_len3 T.z_len (pa_cons (pe_sl (pv 0)) pa_nil)) (nomark _)))), ?_⟩
    obtain ⟨p0, s0⟩ := Z.t0
    obtain ⟨p2, s2⟩ := Z.t2
    refine ⟨_, rfl, _, rfl, x, n, ps, qs, rfl, st, lo, mem_names (List.mem_of_getElem? hm), fun H1 e1 => ?_⟩
    obtain ⟨dx, t1, t2, t3, t4, sl, h1, _, ⟨ob, hob, k3⟩, _⟩ := st.le e1
    have hn : (namesP (ps ++ qs))[j]? = some n := by unfold namesP; rw [List.getElem?_map, hm]; rfl
    obtain ⟨as, ht1, pr⟩ := h1
    refine ⟨_, rfl, x, C, dx, p2, _, 0, _, rfl, sl, Z.sc, s2, rfl, t3, ob, _, rfl, k3, hob, _, rfl, n, j, rfl, k3, hn, first_at nd hn, ?_⟩
    refine ⟨_, rfl, x, C, dx, p0, _, 3, _, rfl, sl, Z.sc, s0, rfl, _, _, rfl, Of3.tup ht1, _, _, rfl, rfl, ?_⟩
    have := k H1 e1
    have e : decide ((j : Int) < ((as.map V.ref).length : Nat)) = decide (j < ps.length) := by
      rw [List.length_map, paired_len pr]
      by_cases c : j < ps.length
      · rw [decide_eq_true c, decide_eq_true (by omega)]
      · rw [decide_eq_false c, decide_eq_false (by omega)]
    show Q (.bl (decide ((j : Int) < ((as.map V.ref).length : Nat)))) H1
    rw [e]
    exact this
abbrev s_m_index_of : Stmt := inClass (top 20) 7
theorem sc_m_index_of : FnScope ["self", "name", "at"] ["self", "name"] (defScope s_m_index_of) := ⟨rfl, rfl, rfl, by decide +kernel, rfl, by decide +kernel, by decide +kernel⟩
theorem fn_index_of (T : Bs mg) (Z : Sx K mg C SO) (F : L2.Fun K "index_of" "Streams.index_of" s_m_index_of f fd) (C_p_known : Cal P w K mg base 2 "require_known" (spKnown C)) : FnG P w K mg base CX0 3 f fd ["self", "name"] (spPlace C fun j m => .int ((if j < m then j else j - m : Nat) : Int)) := by
  refine fn_by F sc_m_index_of (fun vs H Q E h => ?_) (fun cdv A outer s H vs Q E hr h => ?_)
  · obtain ⟨x, n, sg, j, ps, qs, rfl, _⟩ := h
    rfl
  · obtain ⟨x, n, sg, j, ps, qs, rfl, st, lo, nd, hm, k⟩ := h
    refine ⟨_, pss_cons (ps_expr (pc C_p_known hr (pa_cons (pv 0) (pa_cons (pv 1) pa_nil))))
      (pss_cons (ps_set (i := 2) sc_m_index_of.nd rfl (.inl rfl) (pe_tindex (pe_sl (pv 0)) (pv 1)))
      (pss_one (ps_ret (pe_ifExp (pt_cmpR op_lt (pv 2) (pb call_len3 T.z_len (pa_cons (pe_sl (pv 0)) pa_nil)) (nomark _)) (pv 2) (pe_op op_sub (pv 2) (pb call_len3 T.z_len (pa_cons (pe_sl (pv 0)) pa_nil))))))), ?_⟩
    obtain ⟨p0, s0⟩ := Z.t0
    obtain ⟨p2, s2⟩ := Z.t2
    refine ⟨_, rfl, _, rfl, x, n, ps, qs, rfl, st, lo, mem_names (List.mem_of_getElem? hm), fun H1 e1 => ?_⟩
    obtain ⟨dx, t1, t2, t3, t4, sl, h1, _, ⟨ob, hob, k3⟩, _⟩ := st.le e1
    have hn : (namesP (ps ++ qs))[j]? = some n := by unfold namesP; rw [List.getElem?_map, hm]; rfl
    obtain ⟨as, ht1, pr⟩ := h1
    have lp : (as.map V.ref).length = ps.length := by rw [List.length_map, paired_len pr]
    refine ⟨_, rfl, x, C, dx, p2, _, 0, _, rfl, sl, Z.sc, s2, rfl, t3, ob, _, rfl, k3, hob, _, rfl, n, j, rfl, k3, hn, first_at nd hn, ?_⟩
    refine ⟨_, rfl, _, rfl, x, C, dx, p0, _, 3, _, rfl, sl, Z.sc, s0, rfl, _, _, rfl, Of3.tup ht1, _, _, rfl, rfl, _, rfl, ?_⟩
    have kk : Q (.int ((if j < ps.length then j else j - ps.length : Nat) : Int)) H1 := k H1 e1
    refine ite2 (fun c => ?_) (fun c => ?_)
    · have c : (j : Int) < ((as.map V.ref).length : Nat) := of_decide_eq_true c
      rw [if_pos (by omega : j < ps.length)] at kk
      exact ⟨_, rfl, kk⟩
    · have c : ¬ (j : Int) < ((as.map V.ref).length : Nat) := fun q => c (decide_eq_true q)
      rw [if_neg (by omega : ¬ j < ps.length)] at kk
      refine ⟨_, rfl, _, rfl, x, C, dx, p0, _, 3, _, rfl, sl, Z.sc, s0, rfl, _, _, rfl, Of3.tup ht1, _, _, rfl, rfl, ?_⟩
      show Q (.int ((j : Int) - ((as.map V.ref).length : Nat))) H1
      rw [show ((j : Int) - ((as.map V.ref).length : Nat)) = ((j - ps.length : Nat) : Int) by omega]
      exact kk
end
end Fs
namespace Fs
open PySem PySem.Spec PyProof.Rows L2 SlX RZ
/-! ### defs with a last default None -/
structure DfD (K : PySem.W.Frag) (mg : Str → Option Value) (x : Str) (st : Stmt) (ps : List Str) : Prop where
  ex : ∃ (f : Addr) (fd : FuncData), FunD K x x (defArgs st) (defBody st) (defScope st) [.non] [] f fd ∧ mg x = some (.ref f) ∧ Binds K fd ps [] ∧ Binds K fd ps [Value.none]
structure CalD (P : Program) (w : World) (K : PySem.W.Frag) (mg : Str → Option Value) (base : Heap) (k : Nat) (x : Str) (sp : Sp) : Prop where
  ex : ∃ (f : Addr) (fd : FuncData) (ps : List Str), FnG P w K mg base CX0 k f fd ps sp ∧ mg x = some (.ref f) ∧ PySem.W.keepIn K (.ref f) = true ∧ Binds K fd ps [Value.none]
section
variable {P : Program} {w : World} {K : PySem.W.Frag} {mg : Str → Option Value} {base : Heap}
theorem FnG.byD {x : Str} {st : Stmt} {N ps : List Str} {k : Nat} {sp : Sp} {f : Addr} {fd : FuncData} (F : FunD K x x (defArgs st) (defBody st) (defScope st) [.non] [] f fd) (S : FnScope N ps (defScope st)) (lens : ∀ vs H Q E, sp vs H Q E → vs.length = ps.length)
    (body : ∀ (cdv : Value) (A : Around) (outer : List Env) (s : Shared) (H : Hp) (vs : List V) (Q : VK) (E : XK), Rm k (A.deeper (envOfC x (defScope st) s.heap.objs.size f cdv)) → sp vs H Q E →
      ∃ t, PSs (cxOf CX0 P w K mg base N x (defScope st) f cdv A outer s H E).nox (defBody st) t ∧ t { nx := fun _ H' => Q .non H', rt := Q } (start N vs) H) : FnG P w K mg base CX0 (k + 1) f fd ps sp := by
  obtain ⟨c1, d1, dV, v1, v2, v3, n1, cdv, v4, sl, efd, look, code, _, _⟩ := F.ex
  subst efd
  constructor
  · exact lens
  intro A outer s H args us vs Q E room guards env bind rel want
  have inK : K.In s.heap := env.mod.kin.keeps fun b o e => And.left (env.bs b o e)
  have noLim : s.heap.NoLimit := env.mod.nolimit.keeps fun b o e => And.left (env.bs b o e)
  have kinds : ∀ z ∈ ps.zip us, (defScope st).names.lookup z.1 = some .local ∨ ((defScope st).names.lookup z.1 = some .cell ∧ ((cellsFrom (s.heap.objs.size + 1) (defScope st).names []).lookup z.1).isSome = true) := by
    rintro ⟨nm, val⟩ hz
    cases S.par nm (List.of_mem_zip hz).1 with
    | inl c => exact Or.inl c
    | inr c => exact Or.inr ⟨c, PySem.W.cellsFrom_some _ _ _ (Or.inl c)⟩
  refine codeAny_call_function room.depth (inK _ _ look) rfl S.co S.gen rfl (PySem.W.codeRec_of inK code) (bind _ _ _ _ (wpAny_newFunctionEnv_cells S.kind kinds ?_))
  intro env' eEnv s' made
  subst eEnv
  refine And.intro (noLim.keeps made.toInCall.keep) (codeAny_func ?_)
  rcases body cdv A outer s H vs Q E ⟨room.deeper _, guards⟩ want with ⟨t, der, rd⟩
  have J := inv_start (CX := CX0) (E := E) S room.hd env (lens _ _ _ _ want) rel made
  have done : ∀ {σ2 : L2.St} {H2 : Hp} {s2 : Shared} {v : V} {u : Value}, Inv (cxOf CX0 P w K mg base N x (defScope st) f cdv A outer s H E) [] σ2 H2 s2 → RelV v u → Q v H2 → CE outer P w H s Q u s2 := by
    intro σ2 H2 s2 v u J2 r2 q2
    exact ⟨v, H2, J2.os, J2.bare, J2.base, J2.hok, r2, q2⟩
  refine wpAny_mono (der.nox.run [] s' _ H _ J rd) ?_ (fun _ _ he => he)
  intro fl s2 h2
  cases fl
  case ret u => rcases h2 with ⟨v, σ2, H2, J2, r2, q2⟩; exact done J2 r2 q2
  case next => rcases h2 with ⟨σ2, H2, J2, q2⟩; exact done (v := .non) (u := .none) J2 rfl q2
  case brk => rcases h2 with ⟨_, _, _, q2⟩; cases q2
  case cont => rcases h2 with ⟨_, _, _, q2⟩; cases q2
theorem DfD.cal {x : Str} {st : Stmt} {N ps : List Str} {k : Nat} {sp : Sp} (D : DfD K mg x st ps) (S : FnScope N ps (defScope st)) (lens : ∀ vs H Q E, sp vs H Q E → vs.length = ps.length)
    (body : ∀ (f : Addr) (cdv : Value) (A : Around) (outer : List Env) (s : Shared) (H : Hp) (vs : List V) (Q : VK) (E : XK), Rm k (A.deeper (envOfC x (defScope st) s.heap.objs.size f cdv)) → sp vs H Q E →
      ∃ t, PSs (cxOf CX0 P w K mg base N x (defScope st) f cdv A outer s H E).nox (defBody st) t ∧ t { nx := fun _ H' => Q .non H', rt := Q } (start N vs) H) : Cal P w K mg base (k + 1) x sp ∧ CalD P w K mg base (k + 1) x sp := by
  obtain ⟨f, fd, F, m, b0, b1⟩ := D.ex
  have G := FnG.byD (P := P) (w := w) (base := base) (mg := mg) F S lens (fun cdv A outer s H vs Q E hr want => body f cdv A outer s H vs Q E hr want)
  exact ⟨⟨f, fd, ps, G, m, F.kp, b0⟩, ⟨f, fd, ps, G, m, F.kp, b1⟩⟩
end
section
variable {X : Cx} {k j : Nat} {x : Str} {sp : Sp} {p pos : Pos} {e : Expr} {es : List Expr} {t : TA}
/-- f(e, ..), the last parameter by its default None -/
theorem pcD (c : CalD X.prog X.w X.K X.mg X.base k x sp) (hr : Rm j X.A) (ha : PA X (e :: es) t) (hk : k ≤ j := by decide) (hg : Gl X x := by rfl)
    (hdb : (x == ("__debug__" : Str)) = false := by decide) (he : starEach (e :: es) X.env = (false, eval e X.env) :: starEach es X.env := by rfl) (hpl : (backTo pos (starEach es X.env)).any (·.1) = false := by rfl) :
    PE X (.Call (.Name x p) (e :: es) [] pos) (tCallS (fun vs => sp (vs ++ [.non])) (fun _ => E0) t) := by
  obtain ⟨f, fd, ps, F, hm, kp, b⟩ := c.ex
  constructor
  intro pins s σ H Q I want
  apply wpAny_Call_Name_kw
  refine ld_glob I hg hm ?_ hdb
  refine PySem.W.callWith_K (h₀ := X.base) I.ok.mod.kin kp ?_ he hpl
  refine thn (ha.run pos pins s σ H _ I want) ?_
  rintro us s2 ⟨vs, H2, I2, rel, q⟩
  refine ⟨I2.kIn, ?_⟩
  have rel2 : Vals (vs ++ [.non]) (us ++ [Value.none]) := rel.append (.cons rfl .nil)
  have hl : (us ++ [Value.none]).length = ps.length := by rw [← rel2.length]; exact F.lens _ _ _ _ q
  have b1 := b s2 us I2.kIn hl
  refine wpAny_call (codeAny_mono (F.goes X.A X.stack s2 H2 ⟨us, []⟩ (us ++ [Value.none]) (vs ++ [.non]) Q E0 (hr.rm.mono hk) hr.gd I2.env0 b1 rel2 q) ?_)
  intro r s' h
  match r, h with
  | .error err, h => exact h.elim
  | .ok (.ret u), h => exact I2.after h
  | .ok .next, h => exact h.elim
  | .ok .brk, h => exact h.elim
  | .ok .cont, h => exact h.elim
end
/-- zip of two tuples of one length -/
theorem walk_zipT {K : PySem.W.Frag} {a b : Addr} {xs ys : List V} (hl : xs.length = ys.length) : Walk (ItzT K a b) xs.length (fun H => H a = some (.tup xs) ∧ H b = some (.tup ys)) (fun i H v H' => ∃ T x y, v = .ref T ∧ H T = none ∧ H' = upd H T (.tup [x, y]) ∧ xs[i]? = some x ∧ ys[i]? = some y) := by
  refine ⟨fun i H hi g => ?_, fun H g => ?_, fun i H v H' hi g y => ?_⟩
  · exact ⟨xs, ys, xs[i], ys[i]'(by omega), SqT.of g.1, SqT.of g.2, by simp [hi], by simp [hl ▸ hi]⟩
  · exact ⟨xs, ys, SqT.of g.1, SqT.of g.2, .inl (Nat.le_refl _)⟩
  · obtain ⟨T, x, y, h1, h2, h3, h4, h5⟩ := y
    exact ⟨T, x, y, h1, h2, h3, h4 xs (SqT.of g.1), h5 ys (SqT.of g.2)⟩
end Fs
namespace Fs
open PySem PySem.Spec PyProof.Rows L2 SlX RZ
/-! ### words, contents, fillings -/
def wordL (sg z : Str) : Bool := (cps z).all fun c => decide (c ∈ cps sg)
def isWordD (sg : Str) : PyData → Bool
  | .str z => wordL sg z
  | _ => false
def areWordsD (ps : Parts) : PyData → Bool
  | .tuple ds => decide (ds.length = ps.length) && (ps.zip ds).all fun p => isWordD p.1.2 p.2
  | _ => false
section
variable {P : Program} {w : World} {K : PySem.W.Frag} {mg : Str → Option Value} {base : Heap} {C SO : Addr} {f : Addr} {fd : FuncData}
def spWord : Sp := fun vs H Q _ => ∃ (sg : Str) (v : V) (d : PyData), vs = [.str sg, v, .non] ∧ Dx H v d ∧ ∀ H', Same H H' → Q (.bl (isWordD sg d)) H'
abbrev s_p_word : Stmt := top 15
theorem sc_p_word : FnScope ["signs", "value", "most", "sign"] ["signs", "value", "most"] (defScope s_p_word) := ⟨rfl, rfl, rfl, by decide +kernel, rfl, by decide +kernel, by decide +kernel⟩
theorem cal_p_word (T : Bs mg) (D : DfD K mg "is_word_of" s_p_word ["signs", "value", "most"]) : Cal P w K mg base 1 "is_word_of" spWord := by
  refine (D.cal sc_p_word (fun vs H Q E h => ?_) (fun f cdv A outer s H vs Q E hr h => ?_)).1
  · obtain ⟨sg, v, d, rfl, _⟩ := h
    rfl
  · obtain ⟨sg, v, d, rfl, hd, k⟩ := h
    refine ⟨_, pss_cons (ps_if (PW.pt (pw_or (pt_not (pt_val (pb call_isi T.z_isinstance (pa_cons (pv 1) (pa_cons (pe_bltn (v := .ty "str") (u := .type "str") rfl T.z_str (by decide +kernel) rfl) pa_nil))))) (pw_or1 (PW.pt (pw_and (pt_cmpR op_notN (pv 2) pe_non (nomark _)) (pw_and1 (pt_cmpR op_gt (pb call_len3 T.z_len (pa_cons (pv 1) pa_nil)) (pv 2) (nomark _))))))))
        (pss_one (ps_ret pe_bl))
        pss_nil)
      (pss_one (ps_ret (pb (cr_all rfl) T.z_all (pa_cons (pe_lc (own := [("sign", 3)]) (te := (tOp qInS (tVar 3) (tVar 0))) rfl sc_p_word.nd (pi_str (pv 1)) (blkOk_by (N := ["signs", "value", "most", "sign"]) (sc := defScope s_p_word) (by decide +kernel)) (fun _ _ _ _ _ => (pg_name (i := 3) sc_p_word.nd rfl (Or.inl rfl))) (fun _ _ _ _ _ => pts_nil) (fun _ _ _ _ _ => (pe_cmpR op_in_sign (pv 3) (pv 0) (by rfl)))) pa_nil)))), ?_⟩
    obtain ⟨n, ty, h1, _⟩ := tyx_of (K := K) hd
    refine ⟨_, rfl, v, .ty "str", _, _, _, rfl, .ty "str", ty, kit_ty h1, _, rfl, ?_⟩
    cases hd with
    | str z hz =>
      refine iteF ?_
      refine ⟨_, rfl, rfl, _, rfl, ?_⟩
      refine iteF (iteF ?_)
      refine ⟨_, rfl, z, rfl, fun D hD => ?_⟩
      refine lc_it walk_str (fun i H1 => Same H H1 ∧ H1 D = some (.lst (((cps z).take i).map fun c => V.bl (decide (c ∈ cps sg))))) ?_ ?_ ?_ ?_
      · exact ⟨same_upd (Same.refl H) hD, upd_same⟩
      · exact fun _ _ _ _ => trivial
      · rintro i x H1 H2 hi ⟨e1, e2⟩ ⟨rfl, c, hc, rfl⟩
        have hc' : (cps z)[i]? = some c := by rw [← Array.getElem?_toList] at hc; exact hc
        refine ⟨rfl, _, rfl, _, rfl, c, sg, rfl, rfl, _, e2, ?_, same_mut e1 hD, ?_⟩
        · have h8 : i < z.length := hi
          have h9 : ((cps z).take i).length ≤ i := List.length_take_le ..
          have := hz.len
          rw [List.length_map, sizeLine_eq]; omega
        · rw [upd_same, take_snoc hc', List.map_append]; rfl
      · rintro H1 ⟨e1, e2⟩
        refine ⟨D, (cps z).map fun c => decide (c ∈ cps sg), rfl, SqL.of ?_, ?_⟩
        · rw [e2, List.take_of_length_le (by rw [← len_cps]; exact Nat.le_refl _), List.map_map]; rfl
        · have := k H1 e1
          rw [List.all_map]
          exact this
    | _ => exact iteT (k _ (Same.refl H))
def spWords : Sp := fun vs H Q _ => ∃ (t : Addr) (v : V) (d : PyData) (ps : Parts), vs = [.ref t, v, .non] ∧ PartsT H t ps ∧ ps.length ≤ 3 ∧ Dx H v d ∧ ∀ H', Same H H' → Q (.bl (areWordsD ps d)) H'
abbrev s_p_words : Stmt := top 16
theorem sc_p_words : FnScope ["parts", "value", "most", "part", "word"] ["parts", "value", "most"] (defScope s_p_words) := ⟨rfl, rfl, rfl, by decide +kernel, rfl, by decide +kernel, by decide +kernel⟩
theorem cal_p_words (T : Bs mg) (D : DfD K mg "are_words_of" s_p_words ["parts", "value", "most"]) (C_p_word : Cal P w K mg base 1 "is_word_of" spWord) : CalD P w K mg base 2 "are_words_of" spWords := by
  refine (D.cal sc_p_words (fun vs H Q E h => ?_) (fun f cdv A outer s H vs Q E hr h => ?_)).2
  · obtain ⟨t, v, d, ps, rfl, _⟩ := h
    rfl
  · obtain ⟨t, v, d, ps, rfl, hp, l3, hd, k⟩ := h
    refine ⟨_, pss_cons (ps_if (PW.pt (pw_or (pt_not (pt_val (pb call_isi T.z_isinstance (pa_cons (pv 1) (pa_cons (pe_bltn (v := .ty "tuple") (u := .type "tuple") rfl T.z_tuple (by decide +kernel) rfl) pa_nil))))) (pw_or1 (pt_cmpR op_ne (pb call_len3 T.z_len (pa_cons (pv 1) pa_nil)) (pb call_len3 T.z_len (pa_cons (pv 0) pa_nil)) (nomark _)))))
        (pss_one (ps_ret pe_bl))
        pss_nil)
      (pss_one (ps_ret (pb (cr_all rfl) T.z_all (pa_cons (pe_lc (own := [("part", 3), ("word", 4)]) (te := (tCallS spWord (fun _ => E0) (tCons (tOp (rIxT K) (tVar 3) (tC (.int 1))) (tCons (tVar 4) (tCons (tVar 2) tNil))))) (g := gTup K 2 (gCons (gName 3) (gCons (gName 4) gNil))) rfl sc_p_words.nd (pi_zipA rfl T.z_zip (pa_cons (pv 0) (pa_cons (pv 1) pa_nil))) (blkOk_by (N := ["parts", "value", "most", "part", "word"]) (sc := defScope s_p_words) (by decide +kernel)) (fun _ _ _ _ _ => (pg_tup rfl (pgs_cons (pg_name (i := 3) sc_p_words.nd rfl (Or.inl rfl)) (pgs_cons (pg_name (i := 4) sc_p_words.nd rfl (Or.inl rfl)) pgs_nil)))) (fun _ _ _ _ _ => pts_nil) (fun _ _ _ _ _ => (pc C_p_word hr (pa_cons (pe_ix ix_tup (pv 3) pe_int (fun _ _ => rfl)) (pa_cons (pv 4) (pa_cons (pv 2) pa_nil)))))) pa_nil)))), ?_⟩
    obtain ⟨n, ty, _, h2⟩ := tyx_of (K := K) hd
    refine ⟨_, rfl, v, .ty "tuple", _, _, _, rfl, .ty "tuple", ty, kit_ty h2, _, rfl, ?_⟩
    cases hd with
    | @tup a xs ds e ha =>
      obtain ⟨as, et, pr⟩ := hp
      have lp := paired_len pr
      have lx := ha.length
      refine iteF ?_
      refine ⟨_, rfl, _, _, rfl, Of3.tup e, _, rfl, _, _, rfl, Of3.tup et, rfl, _, rfl, ?_⟩
      have nl : areWordsD ps (.tuple ds) = (decide (ds.length = ps.length) && (ps.zip ds).all fun p => isWordD p.1.2 p.2) := rfl
      rw [List.length_map]
      refine ite2 (fun c => ?_) (fun c => ?_)
      · have c : ¬ ds.length = ps.length := fun q => by
          rw [show V.int (xs.length : Int) = V.int (as.length : Int) by rw [lx, lp, q], decide_eq_true rfl] at c
          cases c
        have := k H (Same.refl H)
        rw [nl, decide_eq_false c] at this
        exact this
      · have c : ds.length = ps.length := by
          by_cases q : V.int (xs.length : Int) = V.int (as.length : Int)
          · injection q with q; omega
          · rw [decide_eq_false q] at c
            exact (c rfl).elim
        refine ⟨_, rfl, _, rfl, t, a, as.map V.ref, xs, rfl, .inr ⟨SqT.of et, SqT.of e, fun D hD => ?_⟩⟩
        have hl : (as.map V.ref).length = xs.length := by rw [List.length_map]; omega
        refine lc_it (walk_zipT hl) (fun i H1 => Same H H1 ∧ H1 D = some (.lst (((ps.zip ds).take i).map fun p => V.bl (isWordD p.1.2 p.2)))) ?_ ?_ ?_ ?_
        · exact ⟨same_upd (Same.refl H) hD, upd_same⟩
        · rintro i H1 _ ⟨e1, _⟩
          exact ⟨e1 _ _ et, e1 _ _ e⟩
        · rintro i x H1 H2 hi ⟨e1, e2⟩ ⟨tt, xa, ya, rfl, htt, rfl, hxa, hya⟩
          rw [List.getElem?_map] at hxa
          obtain ⟨q, hq, rfl⟩ := Option.map_eq_some_iff.mp hxa
          obtain ⟨⟨nm, sg⟩, hn, hqa⟩ := paired_get pr hq
          obtain ⟨dy, hdy, hxy⟩ := ha.get hya
          have hz : (ps.zip ds)[i]? = some ((nm, sg), dy) := List.getElem?_zip_eq_some.mpr ⟨hn, hdy⟩
          have e3 := same_upd (o := .tup [.ref q, ya]) e1 htt
          have hDt : D ≠ tt := ne_of_none e2 htt
          refine ⟨tt, _, rfl, SqT.of upd_same, rfl, _, _, rfl, _, _, rfl, rfl, rfl, _, rfl, q, _, 1, .str sg, rfl, rfl, SqT.of (e3 _ _ hqa), rfl, _, rfl, _, rfl, sg, ya, dy, rfl, hxy.le e3, fun H4 e4 => ?_⟩
          refine ⟨_, e4 _ _ (by rw [upd_ne hDt]; exact e2), ?_, same_mut (e3.trans e4) hD, ?_⟩
          · have h9 : ((ps.zip ds).take i).length ≤ i := List.length_take_le ..
            rw [List.length_map] at hi
            rw [List.length_map, sizeLine_eq]; omega
          · rw [upd_same, take_snoc hz, List.map_append]; rfl
        · rintro H1 ⟨e1, e2⟩
          refine ⟨D, (ps.zip ds).map fun p => isWordD p.1.2 p.2, rfl, SqL.of ?_, ?_⟩
          · rw [e2, List.take_of_length_le (by rw [List.length_zip, List.length_map]; omega), List.map_map]; rfl
          · have := k H1 e1
            rw [nl, decide_eq_true c] at this
            rw [List.all_map]
            exact this
    | _ => exact iteT (k _ (Same.refl H))
/-- is_content, is_filling -/
def spTold (C : Addr) (g : Parts → Parts → Parts) : Sp := fun vs H Q _ => ∃ (x : Addr) (v : V) (d : PyData) (ps qs : Parts), vs = [.ref x, v] ∧ StAt H x C ps qs ∧ ps.length ≤ 3 ∧ qs.length ≤ 3 ∧ Dx H v d ∧ ∀ H', Same H H' → Q (.bl (areWordsD (g ps qs) d)) H'
abbrev s_m_is_content : Stmt := inClass (top 20) 8
theorem sc_m_is_content : FnScope ["self", "value"] ["self", "value"] (defScope s_m_is_content) := ⟨rfl, rfl, rfl, by decide +kernel, rfl, by decide +kernel, by decide +kernel⟩
theorem fn_is_content (Z : Sx K mg C SO) (F : L2.Fun K "is_content" "Streams.is_content" s_m_is_content f fd) (C_p_words : CalD P w K mg base 2 "are_words_of" spWords) : FnG P w K mg base CX0 3 f fd ["self", "value"] (spTold C fun ps _ => ps) := by
  refine fn_by F sc_m_is_content (fun vs H Q E h => ?_) (fun cdv A outer s H vs Q E hr h => ?_)
  · obtain ⟨x, v, d, ps, qs, rfl, _⟩ := h
    rfl
  · obtain ⟨x, v, d, ps, qs, rfl, st, l1, l2, hd, k⟩ := h
    refine ⟨_, pss_one (ps_ret (pcD C_p_words hr (pa_cons (pe_sl (pv 0)) (pa_cons (pv 1) pa_nil)))), ?_⟩
    obtain ⟨dx, t1, t2, t3, t4, sl, h1, h2, _, _⟩ := st
    obtain ⟨p0, s0⟩ := Z.t0
    exact ⟨_, rfl, x, C, dx, p0, _, 3, _, rfl, sl, Z.sc, s0, rfl, _, rfl, t1, v, d, ps, rfl, h1, l1, hd, k⟩
abbrev s_m_is_filling : Stmt := inClass (top 20) 9
theorem sc_m_is_filling : FnScope ["self", "value"] ["self", "value"] (defScope s_m_is_filling) := ⟨rfl, rfl, rfl, by decide +kernel, rfl, by decide +kernel, by decide +kernel⟩
theorem fn_is_filling (Z : Sx K mg C SO) (F : L2.Fun K "is_filling" "Streams.is_filling" s_m_is_filling f fd) (C_p_words : CalD P w K mg base 2 "are_words_of" spWords) : FnG P w K mg base CX0 3 f fd ["self", "value"] (spTold C fun _ qs => qs) := by
  refine fn_by F sc_m_is_filling (fun vs H Q E h => ?_) (fun cdv A outer s H vs Q E hr h => ?_)
  · obtain ⟨x, v, d, ps, qs, rfl, _⟩ := h
    rfl
  · obtain ⟨x, v, d, ps, qs, rfl, st, l1, l2, hd, k⟩ := h
    refine ⟨_, pss_one (ps_ret (pcD C_p_words hr (pa_cons (pe_sl (pv 0)) (pa_cons (pv 1) pa_nil)))), ?_⟩
    obtain ⟨dx, t1, t2, t3, t4, sl, h1, h2, _, _⟩ := st
    obtain ⟨p1, s1⟩ := Z.t1
    exact ⟨_, rfl, x, C, dx, p1, _, 2, _, rfl, sl, Z.sc, s1, rfl, _, rfl, t2, v, d, qs, rfl, h2, l2, hd, k⟩
/-- a tuple of small texts -/
def WordsT (H : Hp) (t : Addr) (ws : List Str) : Prop := H t = some (.tup (ws.map V.str)) ∧ ∀ z ∈ ws, TOk z
theorem dx_words {H : Hp} : ∀ {ws : List Str}, (∀ z ∈ ws, TOk z) → DxAll H (ws.map V.str) (ws.map PyData.str)
  | [], _ => .nil
  | z :: ws, h => .cons (.str z (h z (List.mem_cons_self ..))) (dx_words fun y hy => h y (List.mem_cons_of_mem _ hy))
theorem WordsT.dx {H : Hp} {t : Addr} {ws : List Str} (h : WordsT H t ws) : Dx H (.ref t) (.tuple (ws.map .str)) := .tup h.1 (dx_words h.2)
def lensOf (ws : List Str) : Nat := (ws.map (·.length)).sum
def spSteps (C : Addr) : Sp := fun vs H Q _ => ∃ (x t1 t2 : Addr) (ps qs : Parts) (us ws : List Str), vs = [.ref x, .ref t1, .ref t2] ∧ StAt H x C ps qs ∧ ps.length ≤ 3 ∧ qs.length ≤ 3 ∧ WordsT H t1 us ∧ WordsT H t2 ws ∧
  areWordsD ps (.tuple (us.map .str)) = true ∧ areWordsD qs (.tuple (ws.map .str)) = true ∧ ∀ H', Same H H' → Q (.int ((us.length + (lensOf us + lensOf ws) : Nat) : Int)) H'
end
end Fs
namespace Fs
open PySem PySem.Spec PyProof.Rows L2 SlX RZ
theorem slt_of {H : Hp} {x C : Addr} {ps qs : Parts} (h : StAt H x C ps qs) : ∃ dx vs, Slt H x C dx vs := by
  obtain ⟨dx, t1, t2, t3, t4, sl, _⟩ := h
  exact ⟨dx, _, sl⟩
theorem sum_lens (ws : List Str) : ((ws.map fun z => ((z.length : Nat) : Int)).sum) = ((lensOf ws : Nat) : Int) := by
  induction ws with
  | nil => rfl
  | cons z ws ih =>
    unfold lensOf at ih ⊢
    rw [List.map_cons, List.sum_cons, ih, List.map_cons, List.sum_cons]
    omega
theorem lens_app (us ws : List Str) : lensOf (us ++ ws) = lensOf us + lensOf ws := by
  unfold lensOf
  rw [List.map_append, List.sum_append]
section
variable {P : Program} {w : World} {K : PySem.W.Frag} {mg : Str → Option Value} {base : Heap} {C SO : Addr} {f : Addr} {fd : FuncData}
theorem words_len {ps : Parts} {us : List Str} (h : areWordsD ps (.tuple (us.map .str)) = true) : us.length = ps.length := by
  have h : (decide ((us.map PyData.str).length = ps.length) && _) = true := h
  rw [Bool.and_eq_true, decide_eq_true_eq, List.length_map] at h
  exact h.1
abbrev s_m_steps_of : Stmt := inClass (top 20) 10
theorem sc_m_steps_of : FnScope ["self", "content", "filling", "word"] ["self", "content", "filling"] (defScope s_m_steps_of) := ⟨rfl, rfl, rfl, by decide +kernel, rfl, by decide +kernel, by decide +kernel⟩
theorem fn_steps_of (T : Bs mg) (Z : Sx K mg C SO) (F : L2.Fun K "steps_of" "Streams.steps_of" s_m_steps_of f fd) (M_is_content : Mth P w K mg base CX0 C "is_content" 3 (spTold C fun ps _ => ps)) (M_is_filling : Mth P w K mg base CX0 C "is_filling" 3 (spTold C fun _ qs => qs)) (T_sum : mg "sum" = none) :
    FnG P w K mg base CX0 4 f fd ["self", "content", "filling"] (spSteps C) := by
  refine fn_by F sc_m_steps_of (fun vs H Q E h => ?_) (fun cdv A outer s H vs Q E hr h => ?_)
  · obtain ⟨x, t1, t2, ps, qs, us, ws, rfl, _⟩ := h
    rfl
  · obtain ⟨x, t1, t2, ps, qs, us, ws, rfl, st, l1, l2, h1, h2, a1, a2, k⟩ := h
    refine ⟨_, pss_cons (ps_if (pt_not (pt_val (pe_mthd (E := fun _ => E0) M_is_content Z.sc hr (fun _ => passAt0) (pv 0) (pa_cons (pv 1) pa_nil))))
        (pss_one ps_never)
        pss_nil)
      (pss_cons (ps_if (pt_not (pt_val (pe_mthd (E := fun _ => E0) M_is_filling Z.sc hr (fun _ => passAt0) (pv 0) (pa_cons (pv 2) pa_nil))))
        (pss_one ps_never)
        pss_nil)
      (pss_one (ps_ret (pe_op op_add (pb call_len3 T.z_len (pa_cons (pv 1) pa_nil)) (pb (cr_sum rfl) T_sum (pa_cons (pe_lc (own := [("word", 3)]) (te := (tCB (rLen3 K) (tCons (tVar 3) tNil))) rfl sc_m_steps_of.nd (pi_tup (pe_op op_catA (pv 1) (pv 2))) (blkOk_by (N := ["self", "content", "filling", "word"]) (sc := defScope s_m_steps_of) (by decide +kernel)) (fun _ _ _ _ _ => (pg_name (i := 3) sc_m_steps_of.nd rfl (Or.inl rfl))) (fun _ _ _ _ _ => pts_nil) (fun _ _ _ _ _ => (pb call_len3 T.z_len (pa_cons (pv 3) pa_nil)))) pa_nil)))))), ?_⟩
    obtain ⟨dx, vs, sl⟩ := slt_of st
    refine ⟨_, rfl, x, dx, vs, rfl, sl, _, rfl, x, .ref t1, _, ps, qs, rfl, st, l1, l2, h1.dx, fun H1 e1 => ⟨_, rfl, ?_⟩⟩
    rw [a1]
    refine iteF ?_
    refine ⟨_, rfl, x, dx, vs, rfl, slt_mono sl e1, _, rfl, x, .ref t2, _, ps, qs, rfl, st.le e1, l1, l2, h2.dx.le e1, fun H2 e2 => ⟨_, rfl, ?_⟩⟩
    rw [a2]
    refine iteF ?_
    have e12 := e1.trans e2
    have w1 := words_len a1
    have w2 := words_len a2
    refine ⟨_, rfl, _, _, rfl, Of3.tup (e12 _ _ h1.1), ?_⟩
    refine ⟨_, rfl, _, rfl, ?_⟩
    refine cat_get (e12 _ _ h1.1) (e12 _ _ h2.1) (by rw [List.length_map, List.length_map, sizeLine_eq]; omega) fun t H3 e3 ht => ?_
    rw [← List.map_append] at ht
    refine ⟨t, rfl, ⟨_, SqT.of ht⟩, fun D hD => ?_⟩
    refine lc_tup (K := K) (a := t) (xs := (us ++ ws).map V.str) (fun i H4 => Same H3 H4 ∧ H4 D = some (.lst (((us ++ ws).take i).map fun z => V.int ((z.length : Nat) : Int)))) ?_ ?_ ?_ ?_
    · exact ⟨same_upd (Same.refl H3) hD, upd_same⟩
    · rintro i H4 _ ⟨g1, _⟩
      exact SqT.of (g1 _ _ ht)
    · rintro i y H4 hy ⟨g1, g2⟩
      rw [List.getElem?_map] at hy
      obtain ⟨z, hz, rfl⟩ := Option.map_eq_some_iff.mp hy
      have tz : TOk z := (List.mem_append.mp (List.mem_of_getElem? hz)).elim (h1.2 z) (h2.2 z)
      have h9 : ((us ++ ws).take i).length ≤ (us ++ ws).length := List.length_take_le' ..
      rw [List.length_append] at h9
      refine ⟨rfl, _, rfl, _, _, rfl, Of3.str (by have := tz.len; omega), _, g2, by rw [List.length_map, sizeLine_eq]; omega, same_mut g1 hD, ?_⟩
      rw [upd_same, take_snoc hz, List.map_append, List.length_map, ← len_cps]; rfl
    · rintro H4 ⟨g1, g2⟩
      rw [List.length_map, List.take_of_length_le (Nat.le_refl _)] at g2
      refine ⟨D, (us ++ ws).map fun z => ((z.length : Nat) : Int), rfl, SqL.of (by rw [g2, List.map_map]; rfl), ?_⟩
      rw [sum_lens, lens_app, List.length_map]
      have := k H4 ((e12.trans e3).trans g1)
      refine ⟨_, _, rfl, rfl, ?_⟩
      show Q (.int (((us.length : Nat) : Int) + ((lensOf us + lensOf ws : Nat) : Int))) H4
      rw [show ((us.length : Nat) : Int) + ((lensOf us + lensOf ws : Nat) : Int) = ((us.length + (lensOf us + lensOf ws) : Nat) : Int) by omega]
      exact this
end
end Fs
namespace Fs
open PySem PySem.Spec PyProof.Rows L2 SlX RZ
/-! ### an instance is made, by a promise that knows the guards -/
def tMakeS (C : Addr) (sp : Sp) (E : L2.St → XK) (t : TA) : TE := fun σ H Q => t σ H fun vs H1 => ∀ x dx, H1 x = none → H1 dx = none → dx ≠ x → sp (.ref x :: vs) (upd (upd H1 dx (.own x)) x (.ins C dx [])) (fun v H2 => v = .non ∧ Q (.ref x) H2) (E σ)
section
variable {X : Cx} {CX : CXT} {k j : Nat} {f C : Addr} {fd : FuncData} {ps : List Str} {sp : Sp} {E : L2.St → XK} {x : Str} {p pos : Pos} {e : Expr} {es : List Expr} {t : TA}
theorem pe_makeG (M : Mk X.K C f) (F : FnG X.prog X.w X.K X.mg X.base CX k f fd ps sp) (hr : Rm j X.A) (hm : X.mg x = some (.ref C)) (hb : Binds X.K fd ps []) (hx : ∀ σ, PassesAt CX X σ (E σ))
    (ha : PA X (e :: es) t) (hk : k + 1 ≤ j := by decide) (hg : Gl X x := by rfl) (hdb : (x == ("__debug__" : Str)) = false := by decide) (he : starEach (e :: es) X.env = (false, eval e X.env) :: starEach es X.env := by rfl) (hpl : (backTo pos (starEach es X.env)).any (·.1) = false := by rfl) :
    PE X (.Call (.Name x p) (e :: es) [] pos) (tMakeS C sp E t) := by
  refine ⟨fun pins s σ H Q I h => ?_⟩
  refine wpAny_Call_Name_kw (ld_glob I hg hm ?_ hdb)
  refine PySem.W.callWith_K (h₀ := X.base) I.ok.mod.kin M.kp (thn (ha.run pos pins s σ H _ I h) fun us s1 ⟨vs, H1, I1, r, q⟩ => ⟨I1.kIn, ?_⟩) he hpl
  have hq := q (s1.heap.objs.size + 1) s1.heap.objs.size (I1.hok.fresh (Nat.le_succ _)) (I1.hok.fresh (Nat.le_refl _)) (Nat.ne_of_lt (Nat.lt_succ_self _))
  have I2 := Inv.made (C := C) I1
  have r2 : Vals (V.ref (s1.heap.objs.size + 1) :: vs) (Value.ref (s1.heap.objs.size + 1) :: us) := .cons rfl r
  have hl : ((Value.ref (s1.heap.objs.size + 1) :: us) ++ ([] : List Value)).length = ps.length := by
    have e := r2.length
    rw [F.lens _ _ _ _ hq] at e
    rw [List.append_nil]
    exact e.symm
  have hb' := hb _ (Value.ref (s1.heap.objs.size + 1) :: us) I2.kIn hl
  rw [List.append_nil] at hb'
  have hroom := (hr.rm.mono hk).make C us []
  have hgd : (X.A.under (.builtin "type.__call__" ⟨.ref C :: us, []⟩)).guards = some [] := hr.gd
  refine wpAny_call (make_map (f := f) I1.kIn M.makes M.init (beq_iff_eq.mp M.fn) (codeAny_mono (F.goes _ X.stack _ _ ⟨Value.ref (s1.heap.objs.size + 1) :: us, []⟩ (Value.ref (s1.heap.objs.size + 1) :: us) _ _ (E σ) hroom hgd
    (I2.env0.make C us []) hb' r2 hq) fun r s' hq' => ?_))
  cases r with
  | error e => exact hx σ pins _ _ e s' I2 hq'
  | ok fl =>
    cases fl with
    | ret u =>
      obtain ⟨v, H', I3, rv, ev, q3⟩ := I2.after hq'
      subst ev
      exact ⟨rv, ⟨V.ref (s1.heap.objs.size + 1), H', I3, rfl, q3⟩⟩
    | next => exact False.elim hq'
    | brk => exact False.elim hq'
    | cont => exact False.elim hq'
end
def lessP (n : Str) (ps : Parts) : Parts := ps.filter fun p => decide (p.1 ≠ n)
theorem lessP_snoc {n : Str} {ps : Parts} {i : Nat} {p : Str × Str} (h : ps[i]? = some p) : lessP n (ps.take (i + 1)) = lessP n (ps.take i) ++ (if p.1 = n then [] else [p]) := by
  unfold lessP
  rw [take_snoc h, List.filter_append]
  by_cases c : p.1 = n
  · simp [c]
  · simp [c]
theorem okP_less {n : Str} {ps : Parts} (h : okP ps) : okP (lessP n ps) := fun p hp => h p (List.mem_filter.mp hp).1
theorem lessP_app (n : Str) (ps qs : Parts) : lessP n (ps ++ qs) = lessP n ps ++ lessP n qs := List.filter_append ..
theorem lessP_nodup {n : Str} {ps : Parts} (h : (namesP ps).Nodup) : (namesP (lessP n ps)).Nodup := h.sublist ((List.filter_sublist (l := ps)).map _)
theorem lessP_len {n : Str} {ps : Parts} : (lessP n ps).length ≤ ps.length := List.length_filter_le ..
theorem fine_less {n : Str} {ps qs : Parts} (h : Fine ps qs) (h0 : lessP n ps ≠ []) : Fine (lessP n ps) (lessP n qs) := by
  obtain ⟨a, b, c, d⟩ := h.out
  refine ⟨?_, okP_less h.o1, okP_less h.o2⟩
  have e1 := lessP_len (n := n) (ps := ps)
  have e2 := lessP_len (n := n) (ps := qs)
  have e3 := List.length_pos_iff.mpr h0
  have e4 := lessP_nodup (n := n) d
  rw [lessP_app] at e4
  unfold isLet
  rw [decide_eq_true (show 1 ≤ (lessP n ps).length by omega), decide_eq_true (show (lessP n ps).length ≤ 3 by omega), decide_eq_true (show (lessP n qs).length ≤ 3 by omega), decide_eq_true e4]; rfl
section
variable {P : Program} {w : World} {K : PySem.W.Frag} {mg : Str → Option Value} {base : Heap} {C SO : Addr} {f : Addr} {fd : FuncData}
theorem mk_get {H : Hp} {t1 t2 : Addr} {ps qs : Parts} {Q : VK} {E : XK} (h1 : PartsT H t1 ps) (h2 : PartsT H t2 qs) (fine : Fine ps qs) (q : ∀ (z : Addr) (H' : Hp), Same H H' → H z = none → StAt H' z C ps qs → Q (.ref z) H') :
    ∀ x dx, H x = none → H dx = none → dx ≠ x → spInit C [.ref x, .ref t1, .ref t2] (upd (upd H dx (.own x)) x (.ins C dx [])) (fun v H2 => v = .non ∧ Q (.ref x) H2) E := by
  intro x dx hx hdx hne
  have sm : Same H (upd (upd H dx (.own x)) x (.ins C dx [])) := fun b o q => by
    rw [upd_ne (ne_of_none q hx), upd_ne (ne_of_none q hdx)]; exact q
  exact ⟨x, dx, t1, t2, ps, qs, H, rfl, upd_same, hne, hx, hdx, sm, h1, h2, fine, fun H' e st => ⟨rfl, q x H' e hx st⟩⟩
theorem lc_less {H : Hp} {t D : Addr} {n : Str} {ps : Parts} {σ : L2.St} {x0 : V} {o2 : Option V} {Qd : Hp → Prop} (hσ : σ = [some x0, some (.str n), o2, none]) (ht : PartsT H t ps) (hps : ps.length ≤ 1000) (hD : H D = none)
    (q : ∀ (H' : Hp) (bs : List Addr), Same H H' → H' D = some (.lst (bs.map V.ref)) → Paired (PairAt H') bs (lessP n ps) → Qd H') :
    ∃ W : Nat → Nat → Hp → Prop, (∃ m, W 0 m (upd H D (.lst []))) ∧ ∀ i m H, W i m H →
      ((Itt K t).stop i H ∧ Qd H) ∨ ((Itt K t).go i H ∧ ∃ Nx : Hp → Prop, (∀ H', Nx H' → ∃ m', m' < m ∧ W (i + 1) m' H') ∧ ∀ x H', (Itt K t).yld i H x H' → gName 3 x (wipe σ [3]) H' fun σ2 H2 => wipe σ2 [3] = wipe σ [3] ∧ tTest (tOp rNe (tOp (rIx3 K) (tVar 3) (tC (.int 0))) (tVar 1)) σ2 H2 fun b H3 =>
        if b = true then tVar 3 σ2 H3 fun y H4 => ∃ acc, H4 D = some (.lst acc) ∧ acc.length < sizeLine ∧ Nx (upd H4 D (.lst (acc ++ [y]))) else Nx H3) := by
  subst hσ
  obtain ⟨as, et, pr⟩ := ht
  have lp := paired_len pr
  refine lc_tup (K := K) (a := t) (xs := as.map V.ref) (fun i H1 => Same H H1 ∧ ∃ bs : List Addr, H1 D = some (.lst (bs.map V.ref)) ∧ Paired (PairAt H1) bs (lessP n (ps.take i))) ?_ ?_ ?_ ?_
  · exact ⟨same_upd (Same.refl H) hD, [], upd_same, .nil⟩
  · rintro i H1 _ ⟨g, _⟩
    exact SqT.of (g _ _ et)
  · rintro i y H1 hy ⟨g, bs, g1, g2⟩
    rw [List.getElem?_map] at hy
    obtain ⟨p, hp, rfl⟩ := Option.map_eq_some_iff.mp hy
    obtain ⟨⟨m, sg⟩, hm, hpa⟩ := paired_get pr hp
    have hpa1 := g _ _ hpa
    have hi : i < as.length := (List.getElem?_eq_some_iff.mp hp).1
    refine ⟨rfl, _, rfl, _, 0, .str m, rfl, Of3.tup hpa1, by decide, rfl, _, rfl, rfl, _, rfl, ?_⟩
    rw [lessP_snoc hm]
    by_cases c : m = n
    · rw [decide_eq_true (show V.str m = V.str n by rw [c]), if_pos c, List.append_nil]
      exact iteF ⟨g, bs, g1, g2⟩
    · rw [decide_eq_false (show ¬ V.str m = V.str n from fun q => c (by injection q)), if_neg c]
      refine iteT ?_
      have lb : bs.length ≤ 1000 := by
        have h1 := paired_len g2
        have h2 := lessP_len (n := n) (ps := ps.take i)
        have h3 : (ps.take i).length ≤ ps.length := List.length_take_le' ..
        omega
      refine ⟨_, rfl, _, g1, by rw [List.length_map, sizeLine_eq]; omega, same_mut g hD, bs ++ [p], by rw [upd_same, List.map_append]; rfl, ?_⟩
      have hle : ∀ b o, PairAt H1 b o → PairAt (upd H1 D (.lst (bs.map V.ref ++ [.ref p]))) b o := fun b o hb => by
        show (upd _ D _) b = _
        rw [upd_ne (ne_of hb g1 (by intro z; cases z))]; exact hb
      exact paired_snoc (L2.Paired.mapP g2 fun b o hb => hle b o hb) (hle p (m, sg) hpa1)
  · rintro H1 ⟨g, bs, g1, g2⟩
    rw [List.length_map, lp, List.take_of_length_le (Nat.le_refl _)] at g2
    exact q H1 bs g g1 g2
def spLess (C SO : Addr) : Sp := fun vs H Q E => ∃ (x : Addr) (n : Str) (ps qs : Parts), vs = [.ref x, .str n] ∧ StAt H x C ps qs ∧ Fine ps qs ∧ Lo 9 n ∧ n ∈ namesP (ps ++ qs) ∧
  (lessP n ps ≠ [] → ∀ (z : Addr) (H' : Hp), Same H H' → StAt H' z C (lessP n ps) (lessP n qs) → Q (.ref z) H') ∧ (lessP n ps = [] → ∀ H', Same H H' → E (.ref SO) none H')
abbrev s_m_without : Stmt := inClass (top 20) 14
theorem sc_m_without : FnScope ["self", "name", "sources", "part"] ["self", "name"] (defScope s_m_without) := ⟨rfl, rfl, rfl, by decide +kernel, rfl, by decide +kernel, by decide +kernel⟩
theorem fn_without {fI : Addr} {fdI : FuncData} (T : Bs mg) (Z : Sx K mg C SO) (F : L2.Fun K "without" "Streams.without" s_m_without f fd) (C_p_known : Cal P w K mg base 2 "require_known" (spKnown C)) (MK : L2.Mk K C fI) (C_init : FnG P w K mg base CX0 5 fI fdI ["self", "sources", "sinks"] (spInit C)) (BI : Binds K fdI ["self", "sources", "sinks"] []) :
    FnG P w K mg base (L2.CX P w) 7 f fd ["self", "name"] (spLess C SO) := by
  refine FnG.by F sc_m_without (fun vs H Q E h => ?_) (fun cdv A outer s H vs Q E room gd h => ?_)
  · obtain ⟨x, n, ps, qs, rfl, _⟩ := h
    rfl
  · have hr : Rm 6 _ := ⟨room, gd⟩
    obtain ⟨x, n, ps, qs, rfl, st, fine, lo, hn, k1, k2⟩ := h
    refine ⟨_, pss_cons (ps_expr (pc C_p_known hr (pa_cons (pv 0) (pa_cons (pv 1) pa_nil))))
      (pss_cons (ps_set (i := 2) sc_m_without.nd rfl (.inl rfl) (pt call_tuple_of T.z_tuple (pa_cons (pe_lc (own := [("part", 3)]) (te := (tVar 3)) (tt := (tTest (tOp rNe (tOp (rIx3 K) (tVar 3) (tC (.int 0))) (tVar 1)))) rfl sc_m_without.nd (pi_tup (pe_sl (pv 0))) (blkOk_by (N := ["self", "name", "sources", "part"]) (sc := defScope s_m_without) (by decide +kernel)) (fun _ _ _ _ _ => (pg_name (i := 3) sc_m_without.nd rfl (Or.inl rfl))) (fun _ _ _ _ _ => (pts_one (pt_cmpR op_ne (pe_ix ix_3 (pv 3) pe_int (fun _ _ => rfl)) (pv 1) (nomark _)))) (fun _ _ _ _ _ => (pv 3))) pa_nil)))
      (pss_cons (ps_if (pt_cmpR op_eq (pb call_len3 T.z_len (pa_cons (pv 2) pa_nil)) pe_int (nomark _))
        (pss_one (ps_raise rfl (takes_of rfl rfl rfl rfl) (pmk_own PySem.F.excBase_ValueError Z.xO Z.gO Z.kO (raises_own Z.bO Z.tO) rfl)))
        pss_nil)
      (PSs.nox (pss_one (ps_ret (pe_makeG (E := fun _ => E0) MK C_init hr Z.gC BI (fun _ => passAt0) (pa_cons (pv 2) (pa_cons (pt call_tuple_of T.z_tuple (pa_cons (pe_lc (own := [("part", 3)]) (te := (tVar 3)) (tt := (tTest (tOp rNe (tOp (rIx3 K) (tVar 3) (tC (.int 0))) (tVar 1)))) rfl sc_m_without.nd (pi_tup (pe_sl (pv 0))) (blkOk_by (N := ["self", "name", "sources", "part"]) (sc := defScope s_m_without) (by decide +kernel)) (fun _ _ _ _ _ => (pg_name (i := 3) sc_m_without.nd rfl (Or.inl rfl))) (fun _ _ _ _ _ => (pts_one (pt_cmpR op_ne (pe_ix ix_3 (pv 3) pe_int (fun _ _ => rfl)) (pv 1) (nomark _)))) (fun _ _ _ _ _ => (pv 3))) pa_nil)) pa_nil)))))))), ?_⟩
    obtain ⟨l1, l3, m3, nd⟩ := fine.out
    obtain ⟨p0, s0⟩ := Z.t0
    obtain ⟨p1, s1⟩ := Z.t1
    refine ⟨_, rfl, _, rfl, x, n, ps, qs, rfl, st, lo, hn, fun H1 e1 => ?_⟩
    obtain ⟨dx, t1, t2, t3, t4, sl, h1, h2, h3, h4⟩ := st.le e1
    refine ⟨_, rfl, x, C, dx, p0, _, 3, _, rfl, sl, Z.sc, s0, rfl, t1, rfl, ⟨_, SqT.of h1.choose_spec.1⟩, fun D hD => ?_⟩
    refine lc_less rfl h1 (by omega) hD fun H2 bs e2 g1 g2 => ?_
    refine ⟨D, _, rfl, .inl ⟨SqL.of g1, fun u1 hu1 => ?_⟩⟩
    have e3 := same_upd (o := .tup (bs.map V.ref)) (Same.refl H2) hu1
    have k3 : (upd H2 u1 (.tup (bs.map V.ref))) u1 = _ := upd_same
    generalize upd H2 u1 (.tup (bs.map V.ref)) = H3 at e3 k3
    have pt1 : PartsT H3 u1 (lessP n ps) := ⟨bs, k3, pairs_le (Tle.of_same e3) g2⟩
    have e13 := (e1.trans e2).trans e3
    refine ⟨_, rfl, _, _, rfl, Of3.tup k3, rfl, _, rfl, ?_⟩
    have lb : bs.length = (lessP n ps).length := paired_len g2
    rw [List.length_map, lb]
    by_cases c : lessP n ps = []
    · rw [c]
      refine iteT ?_
      exact k2 c H3 e13
    · have c' : ¬ V.int ((lessP n ps).length : Int) = V.int 0 := fun q => by
        injection q with q
        exact c (List.eq_nil_of_length_eq_zero (by omega))
      rw [decide_eq_false c']
      refine iteF ?_
      have e23 := e2.trans e3
      refine ⟨_, rfl, _, rfl, x, C, dx, p1, _, 2, _, rfl, slt_mono sl e23, Z.sc, s1, rfl, t2, rfl, ⟨_, SqT.of (e23 _ _ h2.choose_spec.1)⟩, fun D2 hD2 => ?_⟩
      refine lc_less rfl (h2.le (Tle.of_same e23)) (by omega) hD2 fun H4 bs2 e4 g3 g4 => ?_
      refine ⟨D2, _, rfl, .inl ⟨SqL.of g3, fun u2 hu2 => ?_⟩⟩
      have e5 := same_upd (o := .tup (bs2.map V.ref)) (Same.refl H4) hu2
      have k5 : (upd H4 u2 (.tup (bs2.map V.ref))) u2 = _ := upd_same
      generalize upd H4 u2 (.tup (bs2.map V.ref)) = H5 at e5 k5
      have pt2 : PartsT H5 u2 (lessP n qs) := ⟨bs2, k5, pairs_le (Tle.of_same e5) g4⟩
      exact mk_get (pt1.le (Tle.of_same (e4.trans e5))) pt2 (fine_less fine c) fun z H' e' _ st' => k1 c z H' (e13.trans ((e4.trans e5).trans e')) st'
def spAdd (C SO : Addr) : Sp := fun vs H Q E => ∃ (x y : Addr) (ps qs ps2 qs2 : Parts), vs = [.ref x, .ref y] ∧ StAt H x C ps qs ∧ StAt H y C ps2 qs2 ∧ Fine ps qs ∧ Fine ps2 qs2 ∧
  (isLet (ps ++ ps2) (qs ++ qs2) = true → ∀ (z : Addr) (H' : Hp), Same H H' → StAt H' z C (ps ++ ps2) (qs ++ qs2) → Q (.ref z) H') ∧ (isLet (ps ++ ps2) (qs ++ qs2) = false → ∀ H', Same H H' → E (.ref SO) none H')
abbrev s_m_add : Stmt := inClass (top 20) 15
theorem sc_m_add : FnScope ["self", "other", "sources", "sinks"] ["self", "other"] (defScope s_m_add) := ⟨rfl, rfl, rfl, by decide +kernel, rfl, by decide +kernel, by decide +kernel⟩
theorem fn_add {fI : Addr} {fdI : FuncData} (T : Bs mg) (Z : Sx K mg C SO) (F : L2.Fun K "__add__" "Streams.__add__" s_m_add f fd) (C_p_streams : Cal P w K mg base 4 "are_streams" spStr) (MK : L2.Mk K C fI) (C_init : FnG P w K mg base CX0 5 fI fdI ["self", "sources", "sinks"] (spInit C)) (BI : Binds K fdI ["self", "sources", "sinks"] []) :
    FnG P w K mg base (L2.CX P w) 7 f fd ["self", "other"] (spAdd C SO) := by
  refine FnG.by F sc_m_add (fun vs H Q E h => ?_) (fun cdv A outer s H vs Q E room gd h => ?_)
  · obtain ⟨x, y, ps, qs, ps2, qs2, rfl, _⟩ := h
    rfl
  · have hr : Rm 6 _ := ⟨room, gd⟩
    obtain ⟨x, y, ps, qs, ps2, qs2, rfl, st, st2, fine, fine2, k1, k2⟩ := h
    refine ⟨_, pss_cons (ps_if (pt_not (pt_val (pb (CallR.or call_isi (call_isiSl (.ref C))) T.z_isinstance (pa_cons (pv 1) (pa_cons (pe_glob (v := .ref C) (u := .ref C) rfl Z.gC rfl) pa_nil)))))
        (pss_one ps_never)
        pss_nil)
      (pss_cons (ps_par (i := 2) (j := 3) rfl sc_m_add.nd rfl rfl (by decide) rfl rfl (pa_cons (pe_op op_catA (pe_sl (pv 0)) (pe_sl (pv 1))) (pa_cons (pe_op op_catA (pe_sl (pv 0)) (pe_sl (pv 1))) pa_nil)) (by rfl))
      (pss_cons (ps_if (pt_not (pt_val (pc C_p_streams hr (pa_cons (pv 2) (pa_cons (pv 3) pa_nil)))))
        (pss_one (ps_raise rfl (takes_of rfl rfl rfl rfl) (pmk_own PySem.F.excBase_ValueError Z.xO Z.gO Z.kO (raises_own Z.bO Z.tO) rfl)))
        pss_nil)
      (PSs.nox (pss_one (ps_ret (pe_makeG (E := fun _ => E0) MK C_init hr Z.gC BI (fun _ => passAt0) (pa_cons (pv 2) (pa_cons (pv 3) pa_nil)))))))), ?_⟩
    obtain ⟨l1, l3, m3, nd⟩ := fine.out
    obtain ⟨l1', l3', m3', nd'⟩ := fine2.out
    obtain ⟨p0, s0⟩ := Z.t0
    obtain ⟨p1, s1⟩ := Z.t1
    obtain ⟨dx, t1, t2, t3, t4, sl, h1, h2, h3, h4⟩ := st
    obtain ⟨dy, r1, r2, r3, r4, sl2, g1, g2, g3, g4⟩ := st2
    refine ⟨_, rfl, .inr ⟨y, C, dy, _, .ref C, true, rfl, rfl, fun _ z => z, sl2, Z.sc, Z.si, Z.kk, _, rfl, ?_⟩⟩
    refine iteF ?_
    refine ⟨_, rfl, x, C, dx, p0, _, 3, _, rfl, sl, Z.sc, s0, rfl, _, rfl, y, C, dy, p0, _, 3, _, rfl, sl2, Z.sc, s0, rfl, ?_⟩
    refine parts_cat h1 g1 (by omega) fun a H1 e1 ha => ?_
    refine ⟨_, rfl, x, C, dx, p1, _, 2, _, rfl, slt_mono sl e1, Z.sc, s1, rfl, _, rfl, y, C, dy, p1, _, 2, _, rfl, slt_mono sl2 e1, Z.sc, s1, rfl, ?_⟩
    refine parts_cat (h2.le (Tle.of_same e1)) (g2.le (Tle.of_same e1)) (by omega) fun b H2 e2 hb => ⟨_, _, rfl, ?_⟩
    have o1 : okP (ps ++ ps2) := fun p hp => (List.mem_append.mp hp).elim (fine.o1 p) (fine2.o1 p)
    have o2 : okP (qs ++ qs2) := fun p hp => (List.mem_append.mp hp).elim (fine.o2 p) (fine2.o2 p)
    have ha2 := ha.le (Tle.of_same e2)
    refine ⟨_, rfl, _, rfl, .ref a, .ref b, _, _, rfl, parts_dx0 ha2 o1, parts_dx0 hb o2, fun H3 e3 => ⟨_, rfl, ?_⟩⟩
    rw [are_let o1 o2]
    have e13 := (e1.trans e2).trans e3
    cases c : isLet (ps ++ ps2) (qs ++ qs2) with
    | false => exact iteT (k2 c H3 e13)
    | true =>
      refine iteF ?_
      refine ⟨_, rfl, _, rfl, ?_⟩
      exact mk_get (ha2.le (Tle.of_same e3)) (hb.le (Tle.of_same e3)) ⟨c, o1, o2⟩ fun z H' e' _ st' => k1 c z H' (e13.trans e') st'
end
end Fs
namespace Fs
open PySem PySem.Spec PyProof.Rows L2 SlX RZ StX
/-! ### ==, str and the properties of Streams -/
theorem strOk_lo {n : Nat} {x : Str} (h : Lo n x) : PyData.strOk x = true := by
  unfold PyData.strOk
  rw [← Array.all_toList, List.all_eq_true]
  intro c hc
  have := h.cod c hc
  exact decide_eq_true (by omega)
theorem can_parts : ∀ (ds : List PyData), (∀ e ∈ ds, isPartD e = true) → PyData.canLayAll0 ds = true
  | [], _ => by simp only [PyData.canLayAll0]
  | d :: ds, h => by
    obtain ⟨x, y, rfl, h1, h2⟩ := part_shape (h d (List.mem_cons_self ..))
    have i := can_parts ds fun e he => h e (List.mem_cons_of_mem _ he)
    simp only [PyData.canLayAll0, PyData.canLay0, i, strOk_lo (lo_name h1), strOk_lo (lo_signs h2), Bool.and_self]
theorem shaped_parts {ds : List PyData} (h : ∀ e ∈ ds, isPartD e = true) : SeqAt.shaped (.tuple ds) = true := by
  unfold SeqAt.shaped
  have h1 := can_parts ds h
  have h2 := (fit_parts ds h).tup.de
  rw [decide_eq_true (by omega), Bool.and_true]
  simp only [PyData.canLay0, h1]
theorem eqv_pairs : ∀ (ps qs : Parts), PyData.eqvAll (ps.map dPair) (qs.map dPair) = decide (ps = qs)
  | [], [] => by simp [PyData.eqvAll]
  | [], q :: qs => by simp [PyData.eqvAll]
  | p :: ps, [] => by simp [PyData.eqvAll]
  | (a, b) :: ps, (c, d) :: qs => by
    simp only [List.map_cons, dPair, PyData.eqvAll, PyData.eqv, Bool.and_true]
    have i := eqv_pairs ps qs
    rw [show PyData.eqvAll (ps.map dPair) (qs.map dPair) = decide (ps = qs) from i]
    by_cases h1 : a = c
    · by_cases h2 : b = d
      · simp [h1, h2]
      · simp [h1, h2]
    · simp [h1]
theorem eqv_parts (ps qs : Parts) : PyData.eqv (dParts ps) (dParts qs) = decide (ps = qs) := by
  show PyData.eqv (.tuple _) (.tuple _) = _
  simp only [PyData.eqv]
  exact eqv_pairs ps qs
def txP (p : Str × Str) : Str := ((Str.empty ++ p.1) ++ (":" : Str)) ++ p.2
def strP (ps qs : Parts) : Str := Txt.join (" " : Str) (ps.map txP ++ (">" : Str) :: qs.map txP)
theorem len_txP {p : Str × Str} (h1 : nameL (cps p.1) = true) (h2 : signsL (cps p.2) = true) : (txP p).length ≤ 20 := by
  have a := (lo_name h1).len
  have b := (lo_signs h2).len
  unfold txP
  rw [Str.length_append, Str.length_append, Str.length_append]
  have c : (":" : Str).length = 1 := rfl
  have d : Str.empty.length = 0 := rfl
  omega
theorem sum_le {c : Nat} : ∀ (l : List Str), (∀ x ∈ l, x.length ≤ c) → (l.map (·.length)).sum ≤ c * l.length
  | [], _ => by simp
  | x :: l, h => by
    have i := sum_le l fun y hy => h y (List.mem_cons_of_mem _ hy)
    have j := h x (List.mem_cons_self ..)
    rw [List.map_cons, List.sum_cons, List.length_cons, Nat.mul_add]
    omega
section
variable {P : Program} {w : World} {K : PySem.W.Frag} {mg : Str → Option Value} {base : Heap} {C SO : Addr} {f : Addr} {fd : FuncData}
def spEq (K : PySem.W.Frag) (C : Addr) : Sp := fun vs H Q _ => ∃ (x : Addr) (ps qs : Parts), StAt H x C ps qs ∧ Fine ps qs ∧
  ((∃ (y : Addr) (ps2 qs2 : Parts), vs = [.ref x, .ref y] ∧ StAt H y C ps2 qs2 ∧ Fine ps2 qs2 ∧ Q (.bl (decide (ps = ps2 ∧ qs = qs2))) H) ∨
   (∃ (y : V) (t : Value), vs = [.ref x, y] ∧ TyX K H y t ∧ PySem.W.kitOne K t (.ref C) = some false ∧ Q (.bl false) H))
abbrev s_m_eq : Stmt := inClass (top 20) 18
theorem sc_m_eq : FnScope ["self", "other"] ["self", "other"] (defScope s_m_eq) := ⟨rfl, rfl, rfl, by decide +kernel, rfl, by decide +kernel, by decide +kernel⟩
theorem fn_eq (T : Bs mg) (Z : Sx K mg C SO) (F : L2.Fun K "__eq__" "Streams.__eq__" s_m_eq f fd) : FnG P w K mg base CX0 1 f fd ["self", "other"] (spEq K C) := by
  refine fn_by F sc_m_eq (fun vs H Q E h => ?_) (fun cdv A outer s H vs Q E hr h => ?_)
  · obtain ⟨x, ps, qs, _, _, ⟨y, ps2, qs2, rfl, _⟩ | ⟨y, t, rfl, _⟩⟩ := h <;> rfl
  · obtain ⟨x, ps, qs, st, fine, h⟩ := h
    obtain ⟨p0, s0⟩ := Z.t0
    obtain ⟨p1, s1⟩ := Z.t1
    obtain ⟨dx, t1, t2, t3, t4, sl, h1, h2, h3, h4⟩ := st
    refine ⟨_, pss_one (ps_ret (pe_and (pb (CallR.or call_isi (call_isiSl (.ref C))) T.z_isinstance (pa_cons (pv 1) (pa_cons (pe_glob (v := .ref C) (u := .ref C) rfl Z.gC rfl) pa_nil))) (pe_and (pe_cmpR (op_eqX hr.rm.units) (pe_sl (pv 0)) (pe_sl (pv 1)) (nomark _)) (pe_one (pe_cmpR (op_eqX hr.rm.units) (pe_sl (pv 0)) (pe_sl (pv 1)) (nomark _)))))), ?_⟩
    rcases h with ⟨y, ps2, qs2, rfl, st2, fine2, q⟩ | ⟨y, t, rfl, ty, kt, q⟩
    · obtain ⟨dy, r1, r2, r3, r4, sl2, g1, g2, g3, g4⟩ := st2
      refine ⟨_, rfl, .inr ⟨y, C, dy, _, .ref C, true, rfl, rfl, fun _ z => z, sl2, Z.sc, Z.si, Z.kk, _, rfl, ?_⟩⟩
      refine iteT ?_
      refine ⟨_, rfl, x, C, dx, p0, _, 3, _, rfl, sl, Z.sc, s0, rfl, _, rfl, y, C, dy, p0, _, 3, _, rfl, sl2, Z.sc, s0, rfl, ?_⟩
      refine ⟨_, _, parts_dx0 h1 fine.o1, parts_dx0 g1 fine2.o1, shaped_parts (okP_part fine.o1), shaped_parts (okP_part fine2.o1), _, rfl, ?_⟩
      rw [eqv_parts]
      by_cases c : ps = ps2
      · rw [decide_eq_true c]
        refine iteT ?_
        refine ⟨_, rfl, x, C, dx, p1, _, 2, _, rfl, sl, Z.sc, s1, rfl, _, rfl, y, C, dy, p1, _, 2, _, rfl, sl2, Z.sc, s1, rfl, ?_⟩
        refine ⟨_, _, parts_dx0 h2 fine.o2, parts_dx0 g2 fine2.o2, shaped_parts (okP_part fine.o2), shaped_parts (okP_part fine2.o2), ?_⟩
        rw [eqv_parts]
        have e : decide (ps = ps2 ∧ qs = qs2) = decide (qs = qs2) := by simp [c]
        rw [e] at q
        exact q
      · rw [decide_eq_false c]
        refine iteF ?_
        have e : decide (ps = ps2 ∧ qs = qs2) = false := by simp [c]
        rw [e] at q
        exact q
    · refine ⟨_, rfl, .inl ⟨y, .ref C, t, .ref C, false, rfl, .own C, ty, kt, _, rfl, ?_⟩⟩
      exact iteF q
def tTx : TE := fun σ H Q => tJs [tFmt (tVar 2), (tC (.str ":")), tFmt (tVar 3)] Str.empty σ H fun out H1 => Q (.str out) H1
theorem lc_texts {H : Hp} {t D : Addr} {σ : L2.St} {v0 v1 : Option V} {ps : Parts} {Qd : Hp → Prop} (hσ : σ = [v0, v1, none, none]) (ht : PartsT H t ps) (ok : okP ps) (hps : ps.length ≤ 1000) (hD : H D = none)
    (q : ∀ H' : Hp, Same H H' → H' D = some (.lst ((ps.map txP).map V.str)) → Qd H') :
    ∃ W : Nat → Nat → Hp → Prop, (∃ m, W 0 m (upd H D (.lst []))) ∧ ∀ i m H, W i m H →
      ((Itt K t).stop i H ∧ Qd H) ∨ ((Itt K t).go i H ∧ ∃ Nx : Hp → Prop, (∀ H', Nx H' → ∃ m', m' < m ∧ W (i + 1) m' H') ∧ ∀ x H', (Itt K t).yld i H x H' → gTup K 2 (gCons (gName 2) (gCons (gName 3) gNil)) x (wipe σ [2, 3]) H' fun σ2 H2 => wipe σ2 [2, 3] = wipe σ [2, 3] ∧ tYes σ2 H2 fun b H3 =>
        if b = true then tTx σ2 H3 fun y H4 => ∃ acc, H4 D = some (.lst acc) ∧ acc.length < sizeLine ∧ Nx (upd H4 D (.lst (acc ++ [y]))) else Nx H3) := by
  subst hσ
  obtain ⟨as, et, pr⟩ := ht
  have lp := paired_len pr
  refine lc_tup (K := K) (a := t) (xs := as.map V.ref) (g := gTup K 2 (gCons (gName 2) (gCons (gName 3) gNil))) (tt := tYes) (te := tTx) (vs := [2, 3]) (fun i H1 => Same H H1 ∧ H1 D = some (.lst (((ps.map txP).take i).map V.str))) ?_ ?_ ?_ ?_
  · exact ⟨same_upd (Same.refl H) hD, upd_same⟩
  · rintro i H1 _ ⟨g, _⟩
    exact SqT.of (g _ _ et)
  · rintro i y H1 hy ⟨g, g1⟩
    rw [List.getElem?_map] at hy
    obtain ⟨p, hp, rfl⟩ := Option.map_eq_some_iff.mp hy
    obtain ⟨⟨m, sg⟩, hm, hpa⟩ := paired_get pr hp
    obtain ⟨o1, o2⟩ := ok _ (List.mem_of_getElem? hm)
    have l1 : m.length ≤ 8 := (lo_name o1).len
    have l2 : sg.length ≤ 8 := (lo_signs o2).len
    have hpa1 := g _ _ hpa
    have ht : (ps.map txP)[i]? = some (txP (m, sg)) := by rw [List.getElem?_map, hm]; rfl
    have lE : Str.empty.length = 0 := rfl
    have lC : (":" : Str).length = 1 := rfl
    refine ⟨p, _, rfl, SqT.of hpa1, rfl, _, _, rfl, _, _, rfl, rfl, rfl, ?_⟩
    refine ⟨_, rfl, .inl ⟨m, rfl, by rw [sizeLine_eq]; omega, m, rfl, by rw [Str.length_append, sizeLine_eq]; omega, ?_⟩⟩
    refine ⟨(":" : Str), rfl, by rw [Str.length_append, Str.length_append, sizeLine_eq]; omega, ?_⟩
    refine ⟨_, rfl, .inl ⟨sg, rfl, by rw [sizeLine_eq]; omega, sg, rfl, by rw [Str.length_append, Str.length_append, Str.length_append, sizeLine_eq]; omega, ?_⟩⟩
    refine ⟨_, g1, ?_, same_mut g hD, ?_⟩
    · have h9 : ((ps.map txP).take i).length ≤ (ps.map txP).length := List.length_take_le' ..
      rw [List.length_map] at h9
      rw [List.length_map, sizeLine_eq]; omega
    · rw [upd_same, take_snoc ht, List.map_append]; rfl
  · rintro H1 ⟨g, g1⟩
    rw [List.length_map, List.take_of_length_le (by rw [List.length_map]; omega)] at g1
    exact q H1 g g1
def spStr' (C : Addr) : Sp := fun vs H Q _ => ∃ (x : Addr) (ps qs : Parts), vs = [.ref x] ∧ StAt H x C ps qs ∧ Fine ps qs ∧ ∀ H', Same H H' → Q (.str (strP ps qs)) H'
abbrev s_m_str : Stmt := inClass (top 20) 19
theorem sc_m_str : FnScope ["self", "parts", "name", "signs"] ["self"] (defScope s_m_str) := ⟨rfl, rfl, rfl, by decide +kernel, rfl, by decide +kernel, by decide +kernel⟩
theorem fn_str (T : Bs mg) (Z : Sx K mg C SO) (F : L2.Fun K "__str__" "Streams.__str__" s_m_str f fd) : FnG P w K mg base CX0 1 f fd ["self"] (spStr' C) := by
  refine fn_by F sc_m_str (fun vs H Q E h => ?_) (fun cdv A outer s H vs Q E hr h => ?_)
  · obtain ⟨x, ps, qs, rfl, _⟩ := h
    rfl
  · obtain ⟨x, ps, qs, rfl, st, fine, k⟩ := h
    refine ⟨_, pss_cons (ps_setLc (i := 1) (own := [("name", 2), ("signs", 3)]) (te := tTx) (g := gTup K 2 (gCons (gName 2) (gCons (gName 3) gNil))) rfl sc_m_str.nd rfl rfl (sw_true rfl rfl rfl (by decide +kernel)) (pi_tup (pe_sl (pv 0))) (blkOk_by (N := ["self", "parts", "name", "signs"]) (sc := defScope s_m_str) (by decide +kernel)) (fun _ _ _ _ _ => (pg_tup rfl (pgs_cons (pg_name (i := 2) sc_m_str.nd rfl (Or.inl rfl)) (pgs_cons (pg_name (i := 3) sc_m_str.nd rfl (Or.inl rfl)) pgs_nil)))) (fun _ _ _ _ _ => pts_nil) (fun _ _ _ _ _ => (pe_joined (PJ.cons (pe_fmt (pv 2)) (PJ.cons pe_str (PJ.cons (pe_fmt (pv 3)) PJ.nil))))))
      (pss_one (ps_ret (pe_join pe_str (pe_lstN (pa_star (pv 1) (pa_cons pe_str (pa_star (pe_lc (own := [("name", 2), ("signs", 3)]) (te := tTx) (g := gTup K 2 (gCons (gName 2) (gCons (gName 3) gNil))) rfl sc_m_str.nd (pi_tup (pe_sl (pv 0))) (blkOk_by (N := ["self", "parts", "name", "signs"]) (sc := defScope s_m_str) (by decide +kernel)) (fun _ _ _ _ _ => (pg_tup rfl (pgs_cons (pg_name (i := 2) sc_m_str.nd rfl (Or.inl rfl)) (pgs_cons (pg_name (i := 3) sc_m_str.nd rfl (Or.inl rfl)) pgs_nil)))) (fun _ _ _ _ _ => pts_nil) (fun _ _ _ _ _ => (pe_joined (PJ.cons (pe_fmt (pv 2)) (PJ.cons pe_str (PJ.cons (pe_fmt (pv 3)) PJ.nil)))))) pa_nil))))))), ?_⟩
    obtain ⟨l1, l3, m3, nd⟩ := fine.out
    obtain ⟨p0, s0⟩ := Z.t0
    obtain ⟨p1, s1⟩ := Z.t1
    obtain ⟨dx, t1, t2, t3, t4, sl, h1, h2, h3, h4⟩ := st
    refine ⟨_, rfl, x, C, dx, p0, _, 3, _, rfl, sl, Z.sc, s0, rfl, t1, rfl, ⟨_, SqT.of h1.choose_spec.1⟩, fun D hD => ?_⟩
    refine lc_texts rfl h1 fine.o1 (by omega) hD fun H1 e1 g1 => ?_
    refine ⟨⟨_, rfl⟩, _, rfl, D, _, rfl, .inr (SqL.of g1), ?_⟩
    refine ⟨_, rfl, x, C, dx, p1, _, 2, _, rfl, slt_mono sl e1, Z.sc, s1, rfl, t2, rfl, ⟨_, SqT.of (e1 _ _ h2.choose_spec.1)⟩, fun D2 hD2 => ?_⟩
    refine lc_texts rfl (h2.le (Tle.of_same e1)) fine.o2 (by omega) hD2 fun H2 e2 g2 => ?_
    refine ⟨D2, _, rfl, .inr (SqL.of g2), ?_⟩
    have len : ((ps.map txP).map V.str ++ V.str ">" :: ((qs.map txP).map V.str ++ [])).length ≤ 7 := by
      simp only [List.length_append, List.length_cons, List.length_map, List.length_nil]; omega
    refine ⟨by rw [sizeLine_eq]; omega, fun p hp _ => ?_⟩
    have e3 := same_upd (o := .lst ((ps.map txP).map V.str ++ V.str ">" :: ((qs.map txP).map V.str ++ []))) (Same.refl H2) hp
    have k3 : (upd H2 p (.lst ((ps.map txP).map V.str ++ V.str ">" :: ((qs.map txP).map V.str ++ [])))) p = _ := upd_same
    generalize upd H2 p (.lst ((ps.map txP).map V.str ++ V.str ">" :: ((qs.map txP).map V.str ++ []))) = H3 at e3 k3
    refine ⟨(" " : Str), p, ps.map txP ++ (">" : Str) :: qs.map txP, rfl, rfl, .inl (SqL.of (by rw [k3, List.append_nil, List.map_append]; rfl)), ?_, k H3 ((e1.trans e2).trans e3)⟩
    have hs := sum_le (c := 20) (ps.map txP ++ (">" : Str) :: qs.map txP) (fun y hy => by
      rcases List.mem_append.mp hy with hy | hy
      · obtain ⟨p, hp, rfl⟩ := List.mem_map.mp hy
        exact len_txP (fine.o1 p hp).1 (fine.o1 p hp).2
      · rcases List.mem_cons.mp hy with rfl | hy
        · show 1 ≤ 20
          omega
        · obtain ⟨p, hp, rfl⟩ := List.mem_map.mp hy
          exact len_txP (fine.o2 p hp).1 (fine.o2 p hp).2)
    have hl : (ps.map txP ++ (">" : Str) :: qs.map txP).length ≤ 7 := by
      simp only [List.length_append, List.length_cons, List.length_map]; omega
    have lS : (" " : Str).length = 1 := rfl
    rw [lS]
    omega
/-- what a slot holds -/
def spSrc (C : Addr) (i : Nat) : Sp := fun vs H Q _ => ∃ (a dx : Addr) (ws : List (Option V)) (v : V), vs = [.ref a] ∧ Slt H a C dx ws ∧ ws[i]? = some (some v) ∧ Q v H
variable {CX : CXT} {k : Nat} {ps : List Str} {sp : Sp}
theorem fnR_of (F : FnOk P w K mg base CX k f fd ps sp) (b : Binds K fd ps []) : FnR P w K mg base CX k f sp := by
  intro A outer s H us vs Q E hr e0 r h
  have inK : K.In s.heap := e0.mod.kin.keeps fun b o e => And.left (e0.bs b o e)
  have hl : (us ++ ([] : List Value)).length = ps.length := by rw [List.append_nil, ← r.length]; exact F.len _ _ _ _ h
  have b1 := b s us inK hl
  rw [List.append_nil] at b1
  exact F.run A outer s H ⟨us, []⟩ us vs Q E hr e0 b1 r h
/-- a property of the class -/
structure PrX (P : Program) (w : World) (K : PySem.W.Frag) (mg : Str → Option Value) (base : Heap) (C : Addr) (f : Str) (i : Nat) : Prop where
  ex : ∃ p g : Addr, PySem.W.findIn K (.ref C) f = some (some (.ref p)) ∧ PySem.W.specialIn K (.ref p) "__get__" = some (some (.builtin "property.__get__")) ∧ PySem.W.takesIn K (.ref p) = some true ∧
    (∃ rest, PySem.W.recIn K p "property" = some (.ref g :: rest)) ∧ FnR P w K mg base CX0 1 g (spSrc C i)
abbrev s_sources : Stmt := inClass (top 20) 2
theorem sc_sources : FnScope ["self"] ["self"] (defScope s_sources) := ⟨rfl, rfl, rfl, by decide +kernel, rfl, by decide +kernel, by decide +kernel⟩
theorem fn_sources (Z : Sx K mg C SO) (F : L2.Fun K "sources" "Streams.sources" s_sources f fd) : FnOk P w K mg base CX0 1 f fd ["self"] (spSrc C 3) := by
  refine F.ok sc_sources (fun vs H Q E h => ?_) (fun cdv A outer s H vs Q E hr h => ?_)
  · obtain ⟨a, dx, ws, v, rfl, _⟩ := h
    rfl
  · obtain ⟨a, dx, ws, v, rfl, sl, hv, q⟩ := h
    obtain ⟨p, t⟩ := Z.t0
    exact ⟨_, pss_one (ps_ret (pe_sl (pv 0))), _, rfl, a, C, dx, p, ws, 3, v, rfl, sl, Z.sc, t, hv, q⟩
abbrev s_sinks : Stmt := inClass (top 20) 3
theorem sc_sinks : FnScope ["self"] ["self"] (defScope s_sinks) := ⟨rfl, rfl, rfl, by decide +kernel, rfl, by decide +kernel, by decide +kernel⟩
theorem fn_sinks (Z : Sx K mg C SO) (F : L2.Fun K "sinks" "Streams.sinks" s_sinks f fd) : FnOk P w K mg base CX0 1 f fd ["self"] (spSrc C 2) := by
  refine F.ok sc_sinks (fun vs H Q E h => ?_) (fun cdv A outer s H vs Q E hr h => ?_)
  · obtain ⟨a, dx, ws, v, rfl, _⟩ := h
    rfl
  · obtain ⟨a, dx, ws, v, rfl, sl, hv, q⟩ := h
    obtain ⟨p, t⟩ := Z.t1
    exact ⟨_, pss_one (ps_ret (pe_sl (pv 0))), _, rfl, a, C, dx, p, ws, 2, v, rfl, sl, Z.sc, t, hv, q⟩
abbrev s_names_of : Stmt := inClass (top 20) 4
theorem sc_names_of : FnScope ["self"] ["self"] (defScope s_names_of) := ⟨rfl, rfl, rfl, by decide +kernel, rfl, by decide +kernel, by decide +kernel⟩
theorem fn_names_of (Z : Sx K mg C SO) (F : L2.Fun K "names" "Streams.names" s_names_of f fd) : FnOk P w K mg base CX0 1 f fd ["self"] (spSrc C 0) := by
  refine F.ok sc_names_of (fun vs H Q E h => ?_) (fun cdv A outer s H vs Q E hr h => ?_)
  · obtain ⟨a, dx, ws, v, rfl, _⟩ := h
    rfl
  · obtain ⟨a, dx, ws, v, rfl, sl, hv, q⟩ := h
    obtain ⟨p, t⟩ := Z.t2
    exact ⟨_, pss_one (ps_ret (pe_sl (pv 0))), _, rfl, a, C, dx, p, ws, 0, v, rfl, sl, Z.sc, t, hv, q⟩
end
section
variable {X : Cx} {C : Addr} {f : Str} {i j : Nat} {e : Expr} {ta : TE} {pos : Pos}
theorem pe_prop (pr : PrX X.prog X.w X.K X.mg X.base C f i) (c : SCls X.K C) (hr : Rm j X.A) (he : PE X e ta) (hj : 2 ≤ j := by decide) (hb : attributeBase e f X.env (eval e X.env) = eval e X.env := by rfl) : PE X (.Attribute e f pos) (tPropSl C (spSrc C i) E0 ta) := by
  obtain ⟨p, g, h1, h2, h3, h4, F⟩ := pr.ex
  exact pe_propSl he c h1 h2 h3 h4 F (hr.rm.mono hj) (fun _ _ _ _ z => z) hb
end
end Fs
namespace Fs
open PySem PySem.Spec PyProof.Rows L2 SlX RZ StX
/-! ### list(d.values()) -/
theorem kv_nth {κ : Type} {kvs : List (κ × V)} {vs : List (κ × Value)} (r : KV kvs vs) : ∀ {i : Nat} {k : κ} {v : Value}, vs[i]? = some (k, v) → ∃ x, kvs[i]? = some (k, x) ∧ RelV x v := by
  unfold KV at r
  induction r with
  | nil => intro i k v e; simp at e
  | @cons a b _ _ r t ih =>
    intro i k v e
    cases i with
    | zero =>
      have e' : b = (k, v) := by simpa using e
      subst e'
      exact ⟨a.2, by rw [List.getElem?_cons_zero]; exact congrArg some (Prod.ext r.1 rfl), r.2⟩
    | succ i =>
      rw [List.getElem?_cons_succ] at e
      obtain ⟨x, h1, h2⟩ := ih e
      exact ⟨x, by rw [List.getElem?_cons_succ]; exact h1, h2⟩
def tListVals (td : TE) : TE := fun σ H Q => td σ H fun x H1 => ∃ a kvs, x = V.ref a ∧ H1 a = some (.dK kvs) ∧ ∀ p, H1 p = none → Q (.ref p) (upd H1 p (.lst (kvs.map (·.2))))
section
variable {X : Cx} {o : Expr} {p pos apos mpos : Pos} {td : TE}
theorem pe_listVals (hc : X.calm = true) (hg : Gl X "list") (hm : X.mg "list" = none) (hd : PE X o td) (hbase : attributeBase o "values" X.env (eval o X.env) = eval o X.env := by rfl) (hline : (apos.endLine == mpos.line) = true := by rfl)
    (na : starEach [Expr.Call (.Attribute o "values" apos) [] [] mpos] X.env = (false, eval (Expr.Call (.Attribute o "values" apos) [] [] mpos) X.env) :: starEach [] X.env := by rfl) :
    PE X (.Call (.Name "list" p) [.Call (.Attribute o "values" apos) [] [] mpos] [] pos) (tListVals td) := by
  refine ⟨fun pins s σ H Q I h => ?_⟩
  refine Call_ (ld_blt I hg hm boot_list (PyProof.Rows.callWith_type1 (args_cons ?_ na) na))
  refine wpAny_Call_method0_late hbase hline (thn (hd.run pins s σ H _ I h) fun v s1 ⟨x, H1, I1, r1, a, kvs, ex, ha, q⟩ => ?_)
  subst ex
  obtain rfl : v = Value.ref a := r1
  obtain ⟨z, hsys, vs, rel, dof⟩ := (show ObjOk X.prog X.w H1 s1.heap a (.dK kvs) from I1.hok a _ ha)
  obtain ⟨ep, dat⟩ := dof.dictAt
  have dat' := dat
  obtain ⟨ob, es, ho, ex, hdat, hko, hpr, hnd⟩ := dat'
  refine ⟨"dict", "dict.values", F.plainAttrs_dict, F.slot_dict_values, F.type_dict_values, ⟨ob, ho, ex.1⟩, fun b e => ?_, Calls.callWith_builtin rfl (PySem.evalArgs_none ?_)⟩
  · cases e
    exact ⟨ob, ho, ex.2.1⟩
  refine call_meetsIn F.slot_dict_values ⟨ob, ho, ex.1⟩ F.entry_dict_values (F.args_dict_values_1 _) (meets_dict_values (mixKind X.prog X.w) a hsys) ⟨⟨vs, dof⟩, ?_⟩
  have k1 : ∀ b u, s1.heap.get? b = some u → (s1.heap.push { cls := .type "dict_values", data := .fields #[.ref a] }).get? b = some u := fun b u e => Heap.get?_push_of_some _ e
  have dat1 : (s1.heap.push { cls := .type "dict_values", data := .fields #[.ref a] }).DictAt (mixKind X.prog X.w) a vs ep := dat.keep k1
  have hl : kvs.length = vs.length := Paired.length rel
  have I2 : Inv X pins σ H1 { s1 with heap := s1.heap.push { cls := .type "dict_values", data := .fields #[.ref a] } } := I1.kept (t' := s1.toks) k1
  refine args_nil ?_
  refine PySem.W.kdl_call (PySem.W.kdl_values (knd := mixKind X.prog X.w) (r := s1.heap.objs.size) (d := a) (kvs := vs) (ep := ep)) (I.ok.hd hc) ⟨⟨_, Heap.get?_push_size _ rfl, rfl, rfl⟩, dat1⟩ (by rw [← hl]; exact z) fun h' tk acc' c' hkeep hS hacc => ?_
  refine ⟨.ref _, upd H1 _ (.lst (kvs.map (·.2))), I2.laid (t' := tk) hkeep (Nat.le_refl _) (show ObjOk X.prog X.w _ _ _ (.lst (kvs.map (·.2))) from ⟨?_, acc'.toList, c', ?_, ?_⟩), rfl, q _ (I2.hok.fresh (Nat.le_refl _))⟩
  · rw [List.length_map]; exact z
  · have el : acc'.toList.length = acc'.size := by simp
    refine vals_of_at (by rw [List.length_map, el, hacc.1, hl]) fun j x w h1 h2 => ?_
    obtain ⟨k, hky⟩ := hacc.2 j w (by rw [← Array.getElem?_toList]; exact h2)
    obtain ⟨y, e1, e2⟩ := kv_nth rel hky
    rw [List.getElem?_map, e1] at h1
    cases h1
    exact e2
  · rw [Array.toArray_toList]; exact hS
end
end Fs
namespace Fs
open PySem PySem.Spec PyProof.Rows L2 SlX RZ StX
/-! ### other names -/
/-- l: a dict from the names ns to other names -/
structure Ren (l : Parts) (ns : List Str) : Prop where
  kn : (namesP l).Nodup
  ln : l.length = ns.length
  me : ∀ n ∈ ns, n ∈ namesP l
  nm : ∀ p ∈ l, nameL (cps p.2) = true
  vn : (l.map (·.2)).Nodup
def spRen : Sp := fun vs H Q _ => ∃ (t d : Addr) (ob : Obj) (l : Parts) (ns : List Str), vs = [.ref t, .ref d] ∧ H t = some (.frz ob (.tup (ns.map V.str))) ∧ H d = some (.dK (kvsOf l)) ∧ Ren l ns ∧ ns.length ≤ 1000 ∧ ∀ H', Same H H' → Q (.bl true) H'
theorem Rd.frz {H : Hp} {a : Addr} {ob : Obj} {u : HO} (h : H a = some (.frz ob u)) : Rd H a u := .inr ⟨ob, h⟩
theorem all_true : ∀ (n : Nat), (List.replicate n true).all id = true
  | 0 => rfl
  | n + 1 => by rw [List.replicate_succ, List.all_cons, all_true n]; rfl
theorem rep_snoc (n : Nat) : (List.replicate n true).map V.bl ++ [V.bl true] = (List.replicate (n + 1) true).map V.bl := by
  rw [List.replicate_succ', List.map_append]; rfl
section
variable {P : Program} {w : World} {K : PySem.W.Frag} {mg : Str → Option Value} {base : Heap}
abbrev s_p_ren : Stmt := top 21
theorem sc_p_ren : FnScope ["names", "value", "name"] ["names", "value"] (defScope s_p_ren) := ⟨rfl, rfl, rfl, by decide +kernel, rfl, by decide +kernel, by decide +kernel⟩
theorem cal_p_ren (T : Bs mg) (D : Df K mg "is_renaming" s_p_ren ["names", "value"]) (C_p_name : Cal P w K mg base 1 "is_name" (spIs isNameD)) : Cal P w K mg base 2 "is_renaming" spRen := by
  refine D.cal sc_p_ren (fun vs H Q E h => ?_) (fun f cdv A outer s H vs Q E hr h => ?_)
  · obtain ⟨t, d, ob, l, ns, rfl, _⟩ := h
    rfl
  · obtain ⟨t, d, ob, l, ns, rfl, ht, hd, R, hn, k⟩ := h
    refine ⟨_, pss_cons (ps_if (PW.pt (pw_or (pt_not (pt_val (pb call_isi T.z_isinstance (pa_cons (pv 1) (pa_cons (pe_bltn (v := .ty "dict") (u := .type "dict") rfl T.z_dict (by decide +kernel) rfl) pa_nil)))))
        (pw_or (pt_cmpR op_ne (pb call_lenD T.z_len (pa_cons (pv 1) pa_nil)) (pb call_len3 T.z_len (pa_cons (pv 0) pa_nil)) (nomark _))
        (pw_or1 (pt_not (pt_val (pb (cr_all rfl) T.z_all (pa_cons (pe_lc (own := [("name", 2)]) (te := tDIn (tVar 2) (tVar 1)) rfl sc_p_ren.nd (pi_tup (pv 0)) (blkOk_by (N := ["names", "value", "name"]) (sc := defScope s_p_ren) (by decide +kernel)) (fun _ _ _ _ _ => (pg_name (i := 2) sc_p_ren.nd rfl (Or.inl rfl))) (fun _ _ _ _ _ => pts_nil) (fun _ _ _ _ _ => (pe_cmp (pc_din (hu_of hr.rm) (pv 2) (pv 1))))) pa_nil))))))))
        (pss_one (ps_ret pe_bl))
        pss_nil)
      (pss_cons (ps_if (pt_not (pt_val (pe_lock (pb (cr_all rfl) T.z_all (pa_cons (pe_lc (own := [("name", 2)]) (te := (tCallS (spIs isNameD) (fun _ => E0) (tCons (tVar 2) tNil))) rfl sc_p_ren.nd (pi_values (pv 1)) (blkOk_by (N := ["names", "value", "name"]) (sc := defScope s_p_ren) (by decide +kernel)) (fun _ _ _ _ _ => (pg_name (i := 2) sc_p_ren.nd rfl (Or.inl rfl))) (fun _ _ _ _ _ => pts_nil) (fun _ _ _ _ _ => (pc C_p_name hr (pa_cons (pv 2) pa_nil)))) pa_nil)))))
        (pss_one (ps_ret pe_bl))
        pss_nil)
      (pss_one (ps_ret (pe_cmpR op_eq (pe_lenSetS T.z_len T.z_set (pe_listVals rfl rfl T.z_list (pv 1))) (pb call_lenD T.z_len (pa_cons (pv 1) pa_nil)) (nomark _))))), ?_⟩
    have st : SqT K H t (ns.map V.str) := .inl (Rd.frz ht)
    refine ⟨_, rfl, .ref d, .ty "dict", _, _, true, rfl, .ty "dict", .base (.dK hd), (by decide +kernel : kitB "dict" "dict" = some true), _, rfl, ?_⟩
    refine iteF ?_
    refine ⟨_, rfl, d, _, rfl, hd, _, rfl, _, _, rfl, .inl ⟨t, rfl, .inr st⟩, rfl, _, rfl, ?_⟩
    have lk : (kvsOf l).length = (ns.map V.str).length := by unfold kvsOf; rw [List.length_map, List.length_map, R.ln]
    rw [lk, decide_eq_true rfl]
    refine iteF ?_
    refine ⟨_, rfl, t, rfl, ⟨_, st⟩, fun D hD => ?_⟩
    refine lc_tup (K := K) (a := t) (xs := ns.map V.str) (fun i H1 => Same H H1 ∧ H1 D = some (.lst ((List.replicate i true).map V.bl))) ?_ ?_ ?_ ?_
    · exact ⟨same_upd (Same.refl H) hD, upd_same⟩
    · rintro i H1 _ ⟨g1, _⟩
      exact .inl (Rd.frz (g1 _ _ ht))
    · rintro i x H1 hx ⟨g1, g2⟩
      rw [List.getElem?_map] at hx
      obtain ⟨n, hn', rfl⟩ := Option.map_eq_some_iff.mp hx
      have hi : i < ns.length := (List.getElem?_eq_some_iff.mp hn').1
      refine ⟨rfl, _, rfl, _, rfl, d, _, rfl, DGet.k (k := .inr n) (g1 _ _ hd), ?_⟩
      rw [valV_kvs, decide_eq_true (R.me n (List.mem_of_getElem? hn'))]
      refine ⟨_, g2, ?_, same_mut g1 hD, ?_⟩
      · rw [List.length_map, List.length_replicate, sizeLine_eq]; omega
      · rw [upd_same, rep_snoc]
    rintro H1 ⟨g1, g2⟩
    refine ⟨D, _, rfl, SqL.of g2, ?_⟩
    rw [all_true]
    refine ⟨_, rfl, ?_⟩
    refine iteF ?_
    have hd1 := g1 _ _ hd
    refine ⟨d, _, hd1, trivial, fun od => ?_⟩
    have hd2 : (upd H1 d (.frz od (.dK (kvsOf l)))) d = some (.frz od (.dK (kvsOf l))) := upd_same
    have back : ∀ b o, b ≠ d → H1 b = some o → (upd H1 d (.frz od (.dK (kvsOf l)))) b = some o := fun b o q e => by rw [upd_ne q]; exact e
    generalize upd H1 d (.frz od (.dK (kvsOf l))) = H2 at hd2 back
    refine ⟨_, rfl, d, od, _, rfl, hd2, fun D2 hD2 => ?_⟩
    have lkv : (kvsOf l).length = l.length := by unfold kvsOf; rw [List.length_map]
    refine lc_it walk_values (fun i H3 => Same H2 H3 ∧ H3 D2 = some (.lst ((List.replicate i true).map V.bl))) ?_ ?_ ?_ ?_
    · exact ⟨same_upd (Same.refl H2) hD2, upd_same⟩
    · rintro i H3 _ ⟨g3, _⟩
      exact g3 _ _ hd2
    · rintro i x H3 H4 hi ⟨g3, g4⟩ ⟨rfl, kk, hx⟩
      have hx' : ∃ p ∈ l, x = .str p.2 := by
        unfold kvsOf at hx
        rw [List.getElem?_map] at hx
        obtain ⟨p, hp, e⟩ := Option.map_eq_some_iff.mp hx
        injection e with e1 e2
        exact ⟨p, List.mem_of_getElem? hp, e2.symm⟩
      obtain ⟨p, hp, rfl⟩ := hx'
      have nm := R.nm p hp
      refine ⟨rfl, _, rfl, _, .str p.2, rfl, .str _ ((lo_name nm).tok (by decide)), fun H5 e5 => ?_⟩
      have nm' : isNameD (.str p.2) = true := nm
      rw [nm']
      have ll := R.ln
      refine ⟨_, e5 _ _ g4, ?_, same_mut (g3.trans e5) hD2, ?_⟩
      · rw [List.length_map, List.length_replicate, sizeLine_eq]; omega
      · rw [upd_same, rep_snoc]
    rintro H3 ⟨g3, g4⟩
    refine ⟨D2, _, rfl, SqL.of g4, ?_⟩
    rw [all_true]
    refine ⟨g3 _ _ hd2, _, rfl, ?_⟩
    refine iteF ?_
    have e3 : Same H1 (upd H3 d (.dK (kvsOf l))) := fun b o q => by
      by_cases c : b = d
      · subst c
        rw [upd_same, ← hd1, q]
      · rw [upd_ne c]
        exact g3 _ _ (back b o c q)
    have hd3 : (upd H3 d (.dK (kvsOf l))) d = some (.dK (kvsOf l)) := upd_same
    generalize upd H3 d (.dK (kvsOf l)) = H4 at e3 hd3
    refine ⟨_, rfl, d, _, rfl, hd3, fun p hp => ?_⟩
    have e4 := same_upd (o := .lst ((kvsOf l).map (·.2))) (Same.refl H4) hp
    have k4 : (upd H4 p (.lst ((kvsOf l).map (·.2)))) p = _ := upd_same
    generalize upd H4 p (.lst ((kvsOf l).map (·.2))) = H5 at e4 k4
    have ev : (kvsOf l).map (·.2) = (l.map (·.2)).map V.str := by unfold kvsOf; rw [List.map_map, List.map_map]; rfl
    rw [ev] at k4
    have ll := R.ln
    refine ⟨p, l.map (·.2), rfl, SqL.of k4, by rw [List.length_map]; omega, ?_⟩
    refine ⟨_, rfl, d, _, rfl, e4 _ _ hd3, rfl, ?_⟩
    have nv := (distinct_iff (l.map (·.2))).mpr R.vn
    rw [nv, List.length_map, lkv, decide_eq_true rfl]
    exact k H5 ((g1.trans e3).trans e4)
end
end Fs
namespace Fs
open PySem PySem.Spec PyProof.Rows L2 SlX RZ StX
/-- the other name of n -/
def rnN : Parts → Str → Str
  | [], n => n
  | (a, b) :: l, n => if a = n then b else rnN l n
def rnP (l ps : Parts) : Parts := ps.map fun p => (rnN l p.1, p.2)
theorem rn_val {n : Str} : ∀ {l : Parts}, n ∈ namesP l → valV (kvsOf l) (.inr n : Key) = some (.str (rnN l n))
  | (a, b) :: l, h => by
    unfold rnN
    by_cases e : a = n
    · subst e
      rw [if_pos rfl]
      exact valV_pos rfl
    · rw [if_neg e]
      have h1 : valV (kvsOf ((a, b) :: l)) (.inr n : Key) = valV (kvsOf l) (.inr n : Key) := valV_neg (by
        intro q
        have q : (Sum.inr a : Key) = Sum.inr n := q
        injection q with q
        exact e q)
      rw [h1]
      refine rn_val ?_
      rcases List.mem_cons.mp h with q | q
      · exact absurd q.symm e
      · exact q
theorem rn_mem {n : Str} : ∀ {l : Parts}, n ∈ namesP l → ∃ p ∈ l, p.1 = n ∧ p.2 = rnN l n
  | (a, b) :: l, h => by
    unfold rnN
    by_cases e : a = n
    · rw [if_pos e]
      exact ⟨_, List.mem_cons_self .., e, rfl⟩
    · rw [if_neg e]
      rcases List.mem_cons.mp h with q | q
      · exact absurd q.symm e
      · obtain ⟨p, h1, h2, h3⟩ := rn_mem q
        exact ⟨p, List.mem_cons_of_mem _ h1, h2, h3⟩
theorem map_inj {α β : Type} {f : α → β} : ∀ {l : List α} {p q : α}, (l.map f).Nodup → p ∈ l → q ∈ l → f p = f q → p = q
  | a :: l, p, q, nd, hp, hq, e => by
    obtain ⟨h1, h2⟩ := List.nodup_cons.mp (show (f a :: l.map f).Nodup from nd)
    rcases List.mem_cons.mp hp with e1 | hp'
    · rcases List.mem_cons.mp hq with e2 | hq'
      · rw [e1, e2]
      · exact absurd (List.mem_map.mpr ⟨q, hq', by rw [← e, e1]⟩) h1
    · rcases List.mem_cons.mp hq with e2 | hq'
      · exact absurd (List.mem_map.mpr ⟨p, hp', by rw [e, e2]⟩) h1
      · exact map_inj h2 hp' hq' e
theorem nodup_on {α β : Type} {f : α → β} : ∀ {l : List α}, l.Nodup → (∀ a ∈ l, ∀ b ∈ l, f a = f b → a = b) → (l.map f).Nodup
  | [], _, _ => List.nodup_nil
  | a :: l, nd, h => by
    obtain ⟨h1, h2⟩ := List.nodup_cons.mp nd
    refine List.nodup_cons.mpr ⟨fun m => ?_, nodup_on h2 fun x hx y hy => h x (List.mem_cons_of_mem _ hx) y (List.mem_cons_of_mem _ hy)⟩
    obtain ⟨b, hb, e⟩ := List.mem_map.mp m
    have := h b (List.mem_cons_of_mem _ hb) a (List.mem_cons_self ..) e
    subst this
    exact h1 hb
theorem rn_names (l ps : Parts) : namesP (rnP l ps) = (namesP ps).map (rnN l) := by
  unfold namesP rnP
  rw [List.map_map, List.map_map]; rfl
theorem rn_app (l ps qs : Parts) : rnP l (ps ++ qs) = rnP l ps ++ rnP l qs := List.map_append
theorem fine_rn {l ps qs : Parts} (h : Fine ps qs) (R : Ren l (namesP (ps ++ qs))) : Fine (rnP l ps) (rnP l qs) := by
  obtain ⟨a, b, c, d⟩ := h.out
  have e1 : (rnP l ps).length = ps.length := List.length_map ..
  have e2 : (rnP l qs).length = qs.length := List.length_map ..
  have ok : ∀ p ∈ ps ++ qs, nameL (cps (rnN l p.1)) = true := fun p hp => by
    obtain ⟨z, h1, _, h3⟩ := rn_mem (R.me p.1 (List.mem_map.mpr ⟨p, hp, rfl⟩))
    rw [← h3]
    exact R.nm z h1
  refine ⟨?_, fun p hp => ?_, fun p hp => ?_⟩
  · have nd : (namesP (rnP l ps ++ rnP l qs)).Nodup := by
      rw [← rn_app, rn_names]
      refine nodup_on d fun x hx y hy e => ?_
      obtain ⟨z, h1, h2, h3⟩ := rn_mem (R.me x hx)
      obtain ⟨z', g1, g2, g3⟩ := rn_mem (R.me y hy)
      have := map_inj R.vn h1 g1 (by rw [h3, g3, e])
      subst this
      rw [← h2, ← g2]
    unfold isLet
    rw [e1, e2, decide_eq_true a, decide_eq_true b, decide_eq_true c, decide_eq_true nd]; rfl
  · obtain ⟨q, hq, rfl⟩ := List.mem_map.mp hp
    exact ⟨ok q (List.mem_append_left _ hq), (h.o1 q hq).2⟩
  · obtain ⟨q, hq, rfl⟩ := List.mem_map.mp hp
    exact ⟨ok q (List.mem_append_right _ hq), (h.o2 q hq).2⟩
section
variable {P : Program} {w : World} {K : PySem.W.Frag} {mg : Str → Option Value} {base : Heap} {C SO : Addr} {f : Addr} {fd : FuncData}
theorem lc_ren {H : Hp} {t D d : Addr} {l ps : Parts} {σ : L2.St} {x0 o2 : Option V} {Qd : Hp → Prop} (hσ : σ = [x0, some (.ref d), o2, none, none]) (ht : PartsT H t ps) (hd : H d = some (.dK (kvsOf l))) (hm : ∀ p ∈ ps, p.1 ∈ namesP l) (hps : ps.length ≤ 1000) (hD : H D = none)
    (q : ∀ (H' : Hp) (bs : List Addr), Same H H' → H' D = some (.lst (bs.map V.ref)) → Paired (PairAt H') bs (rnP l ps) → Qd H') :
    ∃ W : Nat → Nat → Hp → Prop, (∃ m, W 0 m (upd H D (.lst []))) ∧ ∀ i m H, W i m H →
      ((Itt K t).stop i H ∧ Qd H) ∨ ((Itt K t).go i H ∧ ∃ Nx : Hp → Prop, (∀ H', Nx H' → ∃ m', m' < m ∧ W (i + 1) m' H') ∧ ∀ x H', (Itt K t).yld i H x H' → gTup K 2 (gCons (gName 3) (gCons (gName 4) gNil)) x (wipe σ [3, 4]) H' fun σ2 H2 => wipe σ2 [3, 4] = wipe σ [3, 4] ∧ tYes σ2 H2 fun b H3 =>
        if b = true then (tTup (tCons (tDGet (tVar 1) (tVar 3)) (tCons (tVar 4) tNil))) σ2 H3 fun y H4 => ∃ acc, H4 D = some (.lst acc) ∧ acc.length < sizeLine ∧ Nx (upd H4 D (.lst (acc ++ [y]))) else Nx H3) := by
  subst hσ
  obtain ⟨as, et, pr⟩ := ht
  have lp := paired_len pr
  have lr : (rnP l ps).length = ps.length := List.length_map ..
  refine lc_tup (K := K) (a := t) (xs := as.map V.ref) (g := gTup K 2 (gCons (gName 3) (gCons (gName 4) gNil))) (tt := tYes) (te := tTup (tCons (tDGet (tVar 1) (tVar 3)) (tCons (tVar 4) tNil))) (vs := [3, 4]) (fun i H1 => Same H H1 ∧ ∃ bs : List Addr, H1 D = some (.lst (bs.map V.ref)) ∧ Paired (PairAt H1) bs ((rnP l ps).take i)) ?_ ?_ ?_ ?_
  · exact ⟨same_upd (Same.refl H) hD, [], upd_same, .nil⟩
  · rintro i H1 _ ⟨g, _⟩
    exact SqT.of (g _ _ et)
  · rintro i y H1 hy ⟨g, bs, g1, g2⟩
    rw [List.getElem?_map] at hy
    obtain ⟨p, hp, rfl⟩ := Option.map_eq_some_iff.mp hy
    obtain ⟨⟨m, sg⟩, hm', hpa⟩ := paired_get pr hp
    have hpa1 := g _ _ hpa
    have hi : i < as.length := (List.getElem?_eq_some_iff.mp hp).1
    have hr : (rnP l ps)[i]? = some (rnN l m, sg) := by unfold rnP; rw [List.getElem?_map, hm']; rfl
    have hv := rn_val (hm _ (List.mem_of_getElem? hm'))
    refine ⟨p, _, rfl, SqT.of hpa1, rfl, _, _, rfl, _, _, rfl, rfl, rfl, ?_⟩
    refine ⟨_, rfl, _, rfl, d, _, rfl, (by rw [← hv]; exact DGet.k (k := .inr m) (g _ _ hd)), _, rfl, ?_⟩
    refine ⟨by show 2 ≤ sizeLine; decide, fun u hu => ?_⟩
    have e1 := same_upd (o := .tup [V.str (rnN l m), .str sg]) (Same.refl H1) hu
    have k1 : (upd H1 u (.tup [V.str (rnN l m), .str sg])) u = _ := upd_same
    have lb : bs.length ≤ 1000 := by
      have h1 := paired_len g2
      have h3 : ((rnP l ps).take i).length ≤ (rnP l ps).length := List.length_take_le' ..
      omega
    refine ⟨_, e1 _ _ g1, by rw [List.length_map, sizeLine_eq]; omega, same_mut (g.trans e1) hD, bs ++ [u], by rw [upd_same, List.map_append]; rfl, ?_⟩
    rw [take_snoc hr]
    have g1' := e1 _ _ g1
    generalize upd H1 u (.tup [V.str (rnN l m), .str sg]) = H2 at e1 k1 g1'
    have hle : ∀ b o, PairAt H1 b o → PairAt (upd H2 D (.lst (bs.map V.ref ++ [.ref u]))) b o := fun b o hb => by
      show (upd _ D _) b = _
      have hb2 := e1 _ _ hb
      rw [upd_ne (ne_of hb2 g1' (by intro z; cases z))]; exact hb2
    have hu2 : PairAt (upd H2 D (.lst (bs.map V.ref ++ [.ref u]))) u (rnN l m, sg) := by
      show (upd _ D _) u = _
      rw [upd_ne (ne_of k1 g1' (by intro z; cases z))]; exact k1
    exact paired_snoc (L2.Paired.mapP g2 fun b o hb => hle b o hb) hu2
  · rintro H1 ⟨g, bs, g1, g2⟩
    rw [List.length_map, lp, ← lr, List.take_of_length_le (Nat.le_refl _)] at g2
    exact q H1 bs g g1 g2
def spRnd (C : Addr) : Sp := fun vs H Q _ => ∃ (x d : Addr) (ps qs l : Parts), vs = [.ref x, .ref d] ∧ StAt H x C ps qs ∧ Fine ps qs ∧ H d = some (.dK (kvsOf l)) ∧ Ren l (namesP (ps ++ qs)) ∧
  ∀ (z : Addr) (H' : Hp), Same H H' → StAt H' z C (rnP l ps) (rnP l qs) → Q (.ref z) H'
abbrev s_m_renamed : Stmt := inClass (top 20) 13
theorem sc_m_renamed : FnScope ["self", "names", "sources", "name", "signs"] ["self", "names"] (defScope s_m_renamed) := ⟨rfl, rfl, rfl, by decide +kernel, rfl, by decide +kernel, by decide +kernel⟩
theorem fn_renamed {fI : Addr} {fdI : FuncData} (T : Bs mg) (Z : Sx K mg C SO) (F : L2.Fun K "renamed" "Streams.renamed" s_m_renamed f fd) (C_p_renaming : Cal P w K mg base 2 "is_renaming" spRen) (MK : L2.Mk K C fI) (C_init : FnG P w K mg base CX0 5 fI fdI ["self", "sources", "sinks"] (spInit C)) (BI : Binds K fdI ["self", "sources", "sinks"] []) :
    FnG P w K mg base CX0 7 f fd ["self", "names"] (spRnd C) := by
  refine fn_by F sc_m_renamed (fun vs H Q E h => ?_) (fun cdv A outer s H vs Q E hr h => ?_)
  · obtain ⟨x, d, ps, qs, l, rfl, _⟩ := h
    rfl
  · obtain ⟨x, d, ps, qs, l, rfl, st, fine, hd, R, k⟩ := h
    refine ⟨_, pss_cons (ps_if (pt_not (pt_val (pc C_p_renaming hr (pa_cons (pe_sl (pv 0)) (pa_cons (pv 1) pa_nil)))))
        (pss_one ps_never)
        pss_nil)
      (pss_cons (ps_set (i := 2) sc_m_renamed.nd rfl (.inl rfl) (pt call_tuple_of T.z_tuple (pa_cons (pe_lc (own := [("name", 3), ("signs", 4)]) (te := (tTup (tCons (tDGet (tVar 1) (tVar 3)) (tCons (tVar 4) tNil)))) (g := gTup K 2 (gCons (gName 3) (gCons (gName 4) gNil))) rfl sc_m_renamed.nd (pi_tup (pe_sl (pv 0))) (blkOk_by (N := ["self", "names", "sources", "name", "signs"]) (sc := defScope s_m_renamed) (by decide +kernel)) (fun _ _ _ _ _ => (pg_tup rfl (pgs_cons (pg_name (i := 3) sc_m_renamed.nd rfl (Or.inl rfl)) (pgs_cons (pg_name (i := 4) sc_m_renamed.nd rfl (Or.inl rfl)) pgs_nil)))) (fun _ _ _ _ _ => pts_nil) (fun _ _ _ _ _ => (pe_tup (pa_cons (pe_dget (hu_of hr.rm) (pv 1) (pv 3) (fun _ _ => rfl)) (pa_cons (pv 4) pa_nil))))) pa_nil)))
      (pss_one (ps_ret (pe_makeG (E := fun _ => E0) MK C_init hr Z.gC BI (fun _ => passAt0) (pa_cons (pv 2) (pa_cons (pt call_tuple_of T.z_tuple (pa_cons (pe_lc (own := [("name", 3), ("signs", 4)]) (te := (tTup (tCons (tDGet (tVar 1) (tVar 3)) (tCons (tVar 4) tNil)))) (g := gTup K 2 (gCons (gName 3) (gCons (gName 4) gNil))) rfl sc_m_renamed.nd (pi_tup (pe_sl (pv 0))) (blkOk_by (N := ["self", "names", "sources", "name", "signs"]) (sc := defScope s_m_renamed) (by decide +kernel)) (fun _ _ _ _ _ => (pg_tup rfl (pgs_cons (pg_name (i := 3) sc_m_renamed.nd rfl (Or.inl rfl)) (pgs_cons (pg_name (i := 4) sc_m_renamed.nd rfl (Or.inl rfl)) pgs_nil)))) (fun _ _ _ _ _ => pts_nil) (fun _ _ _ _ _ => (pe_tup (pa_cons (pe_dget (hu_of hr.rm) (pv 1) (pv 3) (fun _ _ => rfl)) (pa_cons (pv 4) pa_nil))))) pa_nil)) pa_nil)))))), ?_⟩
    obtain ⟨l1, l3, m3, nd⟩ := fine.out
    obtain ⟨p0, s0⟩ := Z.t0
    obtain ⟨p1, s1⟩ := Z.t1
    obtain ⟨p2, s2⟩ := Z.t2
    have ln : (namesP (ps ++ qs)).length ≤ 6 := by unfold namesP; rw [List.length_map, List.length_append]; omega
    have hm1 : ∀ p ∈ ps, p.1 ∈ namesP l := fun p hp => R.me _ (List.mem_map.mpr ⟨p, List.mem_append_left _ hp, rfl⟩)
    have hm2 : ∀ p ∈ qs, p.1 ∈ namesP l := fun p hp => R.me _ (List.mem_map.mpr ⟨p, List.mem_append_right _ hp, rfl⟩)
    obtain ⟨dx, t1, t2, t3, t4, sl, h1, h2, ⟨ob, hob, h3⟩, h4⟩ := st
    refine ⟨_, rfl, x, C, dx, p2, _, 0, _, rfl, sl, Z.sc, s2, rfl, _, rfl, t3, d, ob, l, _, rfl, h3, hd, R, by omega, fun H1 e1 => ⟨_, rfl, ?_⟩⟩
    refine iteF ?_
    refine ⟨_, rfl, x, C, dx, p0, _, 3, _, rfl, slt_mono sl e1, Z.sc, s0, rfl, t1, rfl, ⟨_, SqT.of (e1 _ _ h1.choose_spec.1)⟩, fun D hD => ?_⟩
    refine lc_ren rfl (h1.le (Tle.of_same e1)) (e1 _ _ hd) hm1 (by omega) hD fun H2 bs e2 g1 g2 => ?_
    refine ⟨D, _, rfl, .inl ⟨SqL.of g1, fun u1 hu1 => ?_⟩⟩
    have e3 := same_upd (o := .tup (bs.map V.ref)) (Same.refl H2) hu1
    have k3 : (upd H2 u1 (.tup (bs.map V.ref))) u1 = _ := upd_same
    generalize upd H2 u1 (.tup (bs.map V.ref)) = H3 at e3 k3
    have pt1 : PartsT H3 u1 (rnP l ps) := ⟨bs, k3, pairs_le (Tle.of_same e3) g2⟩
    have e13 := (e1.trans e2).trans e3
    refine ⟨_, rfl, _, rfl, x, C, dx, p1, _, 2, _, rfl, slt_mono sl e13, Z.sc, s1, rfl, t2, rfl, ⟨_, SqT.of (e13 _ _ h2.choose_spec.1)⟩, fun D2 hD2 => ?_⟩
    refine lc_ren rfl (h2.le (Tle.of_same e13)) (e13 _ _ hd) hm2 (by omega) hD2 fun H4 bs2 e4 g3 g4 => ?_
    refine ⟨D2, _, rfl, .inl ⟨SqL.of g3, fun u2 hu2 => ?_⟩⟩
    have e5 := same_upd (o := .tup (bs2.map V.ref)) (Same.refl H4) hu2
    have k5 : (upd H4 u2 (.tup (bs2.map V.ref))) u2 = _ := upd_same
    generalize upd H4 u2 (.tup (bs2.map V.ref)) = H5 at e5 k5
    have pt2 : PartsT H5 u2 (rnP l qs) := ⟨bs2, k5, pairs_le (Tle.of_same e5) g4⟩
    exact mk_get (pt1.le (Tle.of_same (e4.trans e5))) pt2 (fine_rn fine R) fun z H' e' _ st' => k z H' (e13.trans ((e4.trans e5).trans e')) st'
end
end Fs
namespace Fs
open PySem PySem.Spec PyProof.Rows L2 SlX RZ StX
/-! ### the law's own defs: a drawn word, the text due -/
theorem ones_in {l : List Nat} : ∀ {ys : List Str}, (∀ y ∈ ys, ∃ c, cps y = [c] ∧ c ∈ l) → ((ys.map cps).flatten).length = ys.length ∧ (ys.map (·.length)).sum = ys.length ∧ ∀ c ∈ (ys.map cps).flatten, c ∈ l
  | [], _ => ⟨rfl, rfl, fun _ h => nomatch h⟩
  | y :: ys, h => by
    obtain ⟨i1, i2, i3⟩ := ones_in fun z hz => h z (List.mem_cons_of_mem _ hz)
    obtain ⟨c, e, hc⟩ := h y (List.mem_cons_self ..)
    have ly : y.length = 1 := by rw [len_cps, e]; rfl
    refine ⟨?_, ?_, fun d hd => ?_⟩
    · rw [List.map_cons, List.flatten_cons, List.length_append, e, i1, List.length_cons]; simp; omega
    · rw [List.map_cons, List.sum_cons, i2, ly, List.length_cons]; omega
    · rw [List.map_cons, List.flatten_cons, e] at hd
      rcases List.mem_append.mp hd with q | q
      · rw [List.mem_singleton.mp q]; exact hc
      · exact i3 d q
section
variable {P : Program} {w : World} {K : PySem.W.Frag} {mg : Str → Option Value} {base : Heap}
def spLWord : Sp := fun vs H Q _ => ∃ (a : Addr) (sg : Str) (m : Nat), vs = [.ref a, .str sg, .int m] ∧ Pot H a ∧ signsL (cps sg) = true ∧ m ≤ 300 ∧ ∀ (x : Str) (H' : Hp), x.length ≤ m → (∀ c ∈ cps x, c ∈ cps sg) → Stp a H H' → Q (.str x) H'
abbrev s_word : Stmt := top 33
theorem sc_word : FnScope ["pot", "signs", "most", "turn"] ["pot", "signs", "most"] (defScope s_word) := ⟨rfl, rfl, rfl, by decide +kernel, rfl, by decide +kernel, by decide +kernel⟩
theorem cal_word (T : Bs mg) (D : Df K mg "_law_word" s_word ["pot", "signs", "most"]) (C_dip : Cal P w K mg base 1 "_law_dip" spDip) (C_choose : Cal P w K mg base 2 "_law_choose" (spChoose K)) : Cal P w K mg base 3 "_law_word" spLWord := by
  refine D.cal sc_word (fun vs H Q E h => ?_) (fun f cdv A outer s H vs Q E hr h => ?_)
  · obtain ⟨a, sg, m, rfl, _⟩ := h
    rfl
  · obtain ⟨a, sg, m, rfl, hp, sl, hm, k⟩ := h
    refine ⟨_, pss_one (ps_ret (pe_join pe_str (pe_lc (own := [("turn", 3)]) (te := (tCallS (spChoose K) (fun _ => E0) (tCons (tVar 0) (tCons (tVar 1) tNil)))) rfl sc_word.nd (pi_range1 (by rfl) T.z_range (pa_cons (pc C_dip hr (pa_cons (pv 0) (pa_cons (pe_op op_add (pv 2) pe_int) pa_nil))) pa_nil)) (blkOk_by (N := ["pot", "signs", "most", "turn"]) (sc := defScope s_word) (by decide +kernel)) (fun _ _ _ _ _ => (pg_name (i := 3) sc_word.nd rfl (Or.inl rfl))) (fun _ _ _ _ _ => pts_nil) (fun _ _ _ _ _ => (pc C_choose hr (pa_cons (pv 0) (pa_cons (pv 1) pa_nil))))))), ?_⟩
    have lsg := (lo_signs sl).len
    have ne : cps sg ≠ [] := fun e => by
      unfold signsL at sl
      rw [e] at sl
      revert sl
      decide
    refine ⟨⟨_, rfl⟩, _, rfl, _, rfl, _, _, rfl, rfl, a, _, rfl, hp, by omega, by omega, fun r H1 r0 r1 st1 => ?_⟩
    refine ⟨r, rfl, by omega, by omega, fun D hD => ?_⟩
    have hDa : D ≠ a := st1.pot.ne hD
    have hD0 : H D = none := st1.free hD hDa
    refine lc_range (fun i H4 => ∃ ys : List Str, Stp a H H4 ∧ H4 D = some (.lst (ys.map V.str)) ∧ ys.length = i ∧ ∀ y ∈ ys, ∃ c, cps y = [c] ∧ c ∈ cps sg) ?_ ?_ ?_
    · exact ⟨[], st1.new hD, upd_same, rfl, fun y hy => nomatch hy⟩
    · rintro i H4 hi ⟨ys, st, hacc, hlen, ho⟩
      refine ⟨rfl, _, rfl, _, rfl, a, _, _, rfl, st.pot, Of3.str (by omega), fun e => ne (List.map_eq_nil_iff.mp e), by rw [List.length_map, ← len_cps]; omega, fun v H5 hv st5 => ?_⟩
      obtain ⟨c, hc, rfl⟩ := List.mem_map.mp hv
      have hacc5 := st5.get hacc hDa
      refine ⟨_, hacc5, by rw [List.length_map, sizeLine_eq]; omega, ys ++ [⟨#[c]⟩], (st.trans st5).mut hD0 hDa, by rw [upd_same, List.map_append]; rfl, by simp [hlen], ?_⟩
      intro y hy
      rcases List.mem_append.mp hy with h | h
      · exact ho y h
      · rw [List.mem_singleton.mp h]
        exact ⟨c, rfl, hc⟩
    · rintro H4 ⟨ys, st, hacc, hlen, ho⟩
      obtain ⟨f1, f2, f3⟩ := ones_in ho
      have hn : ys.length = r.toNat := hlen
      refine ⟨_, _, ys, rfl, rfl, .inl (SqL.of hacc), (by rw [f2]; show ys.length + ys.length * 0 ≤ _; omega), ?_⟩
      have e := cps_join ys
      generalize Txt.join "" ys = word at e
      exact k word H4 (by rw [len_cps, e, f1]; omega) (by rw [e]; exact f3) st
end
end Fs
namespace Fs
open PySem PySem.Spec PyProof.Rows L2 SlX RZ StX
/-- a record: the list of two tuples of parts -/
def RecAt (H : Hp) (r : Addr) (ps qs : Parts) : Prop := ∃ t1 t2 : Addr, H r = some (.lst [.ref t1, .ref t2]) ∧ PartsT H t1 ps ∧ PartsT H t2 qs
theorem RecAt.le {H H' : Hp} {r : Addr} {ps qs : Parts} (e : Same H H') (h : RecAt H r ps qs) : RecAt H' r ps qs := by
  obtain ⟨t1, t2, a, b, c⟩ := h
  exact ⟨t1, t2, e _ _ a, b.le (Tle.of_same e), c.le (Tle.of_same e)⟩
def rAddStr : R2 := fun x y H Q => ∃ i j : Str, x = .str i ∧ y = .str j ∧ i.length + j.length ≤ sizeLine ∧ Q (.str (i ++ j)) H
def txL (p : Str × Str) : Str := (p.1 ++ (":" : Str)) ++ p.2
theorem txL_eq (p : Str × Str) : txL p = txP p := by
  unfold txL txP
  rw [Str.empty_append]
theorem txL_map (ps : Parts) : ps.map txL = ps.map txP := by
  congr 1
  funext p
  exact txL_eq p
section
variable {P : Program} {w : World} {K : PySem.W.Frag} {mg : Str → Option Value} {base : Heap}
theorem lc_textL {H : Hp} {t D : Addr} {σ : L2.St} {v0 v1 : Option V} {ps : Parts} {Qd : Hp → Prop} (hσ : σ = [v0, v1, none, none]) (ht : PartsT H t ps) (ok : okP ps) (hps : ps.length ≤ 1000) (hD : H D = none)
    (q : ∀ H' : Hp, Same H H' → H' D = some (.lst ((ps.map txP).map V.str)) → Qd H') :
    ∃ W : Nat → Nat → Hp → Prop, (∃ m, W 0 m (upd H D (.lst []))) ∧ ∀ i m H, W i m H →
      ((Itt K t).stop i H ∧ Qd H) ∨ ((Itt K t).go i H ∧ ∃ Nx : Hp → Prop, (∀ H', Nx H' → ∃ m', m' < m ∧ W (i + 1) m' H') ∧ ∀ x H', (Itt K t).yld i H x H' → gTup K 2 (gCons (gName 2) (gCons (gName 3) gNil)) x (wipe σ [2, 3]) H' fun σ2 H2 => wipe σ2 [2, 3] = wipe σ [2, 3] ∧ tYes σ2 H2 fun b H3 =>
        if b = true then (tOp rAddStr (tOp rAddStr (tVar 2) (tC (.str ":"))) (tVar 3)) σ2 H3 fun y H4 => ∃ acc, H4 D = some (.lst acc) ∧ acc.length < sizeLine ∧ Nx (upd H4 D (.lst (acc ++ [y]))) else Nx H3) := by
  subst hσ
  obtain ⟨as, et, pr⟩ := ht
  have lp := paired_len pr
  refine lc_tup (K := K) (a := t) (xs := as.map V.ref) (g := gTup K 2 (gCons (gName 2) (gCons (gName 3) gNil))) (tt := tYes) (te := tOp rAddStr (tOp rAddStr (tVar 2) (tC (.str ":"))) (tVar 3)) (vs := [2, 3]) (fun i H1 => Same H H1 ∧ H1 D = some (.lst (((ps.map txP).take i).map V.str))) ?_ ?_ ?_ ?_
  · exact ⟨same_upd (Same.refl H) hD, upd_same⟩
  · rintro i H1 _ ⟨g, _⟩
    exact SqT.of (g _ _ et)
  · rintro i y H1 hy ⟨g, g1⟩
    rw [List.getElem?_map] at hy
    obtain ⟨p, hp, rfl⟩ := Option.map_eq_some_iff.mp hy
    obtain ⟨⟨m, sg⟩, hm, hpa⟩ := paired_get pr hp
    obtain ⟨o1, o2⟩ := ok _ (List.mem_of_getElem? hm)
    have l1 : m.length ≤ 8 := (lo_name o1).len
    have l2 : sg.length ≤ 8 := (lo_signs o2).len
    have hpa1 := g _ _ hpa
    have ht : (ps.map txP)[i]? = some (txL (m, sg)) := by rw [List.getElem?_map, hm, txL_eq]; rfl
    have lC : (":" : Str).length = 1 := rfl
    refine ⟨p, _, rfl, SqT.of hpa1, rfl, _, _, rfl, _, _, rfl, rfl, rfl, ?_⟩
    refine ⟨_, rfl, m, _, rfl, rfl, by rw [sizeLine_eq, lC]; omega, _, rfl, _, sg, rfl, rfl, by rw [Str.length_append, sizeLine_eq]; omega, ?_⟩
    refine ⟨_, g1, ?_, same_mut g hD, ?_⟩
    · have h9 : ((ps.map txP).take i).length ≤ (ps.map txP).length := List.length_take_le' ..
      rw [List.length_map] at h9
      rw [List.length_map, sizeLine_eq]; omega
    · rw [upd_same, take_snoc ht, List.map_append]; rfl
  · rintro H1 ⟨g, g1⟩
    rw [List.length_map, List.take_of_length_le (by rw [List.length_map]; omega)] at g1
    exact q H1 g g1
def spLText : Sp := fun vs H Q _ => ∃ (r : Addr) (ps qs : Parts), vs = [.ref r] ∧ RecAt H r ps qs ∧ Fine ps qs ∧ ∀ H', Same H H' → Q (.str (strP ps qs)) H'
abbrev s_text : Stmt := top 34
theorem sc_text : FnScope ["record", "found", "name", "signs"] ["record"] (defScope s_text) := ⟨rfl, rfl, rfl, by decide +kernel, rfl, by decide +kernel, by decide +kernel⟩
theorem cal_text (D : Df K mg "_law_text" s_text ["record"]) : Cal P w K mg base 1 "_law_text" spLText := by
  refine D.cal sc_text (fun vs H Q E h => ?_) (fun f cdv A outer s H vs Q E hr h => ?_)
  · obtain ⟨r, ps, qs, rfl, _⟩ := h
    rfl
  · obtain ⟨r, ps, qs, rfl, ⟨t1, t2, hl, h1, h2⟩, fine, k⟩ := h
    refine ⟨_, pss_cons (ps_set (i := 1) sc_text.nd rfl (.inl rfl) (pe_op op_cat (pe_lc (own := [("name", 2), ("signs", 3)]) (te := (tOp rAddStr (tOp rAddStr (tVar 2) (tC (.str ":"))) (tVar 3))) (g := gTup K 2 (gCons (gName 2) (gCons (gName 3) gNil))) rfl sc_text.nd (pi_tup (pe_ix ix_list (pv 0) pe_int (fun _ _ => rfl))) (blkOk_by (N := ["record", "found", "name", "signs"]) (sc := defScope s_text) (by decide +kernel)) (fun _ _ _ _ _ => (pg_tup rfl (pgs_cons (pg_name (i := 2) sc_text.nd rfl (Or.inl rfl)) (pgs_cons (pg_name (i := 3) sc_text.nd rfl (Or.inl rfl)) pgs_nil)))) (fun _ _ _ _ _ => pts_nil) (fun _ _ _ _ _ => (pe_op op_add_str (pe_op op_add_str (pv 2) pe_str) (pv 3)))) (pe_lstN (pa_cons pe_str pa_nil))))
      (pss_one (ps_ret (pe_join pe_str (pe_op op_cat (pv 1) (pe_lc (own := [("name", 2), ("signs", 3)]) (te := (tOp rAddStr (tOp rAddStr (tVar 2) (tC (.str ":"))) (tVar 3))) (g := gTup K 2 (gCons (gName 2) (gCons (gName 3) gNil))) rfl sc_text.nd (pi_tup (pe_ix ix_list (pv 0) pe_int (fun _ _ => rfl))) (blkOk_by (N := ["record", "found", "name", "signs"]) (sc := defScope s_text) (by decide +kernel)) (fun _ _ _ _ _ => (pg_tup rfl (pgs_cons (pg_name (i := 2) sc_text.nd rfl (Or.inl rfl)) (pgs_cons (pg_name (i := 3) sc_text.nd rfl (Or.inl rfl)) pgs_nil)))) (fun _ _ _ _ _ => pts_nil) (fun _ _ _ _ _ => (pe_op op_add_str (pe_op op_add_str (pv 2) pe_str) (pv 3)))))))), ?_⟩
    obtain ⟨l1, l3, m3, nd⟩ := fine.out
    refine ⟨_, rfl, r, _, 0, .ref t1, rfl, rfl, SqL.of hl, rfl, t1, rfl, ⟨_, SqT.of h1.choose_spec.1⟩, fun D hD => ?_⟩
    refine lc_textL rfl h1 fine.o1 (by omega) hD fun H1 e1 g1 => ?_
    refine ⟨by show 1 ≤ sizeLine; decide, fun b hb _ => ?_⟩
    have e2 := same_upd (o := .lst [V.str ">"]) (Same.refl H1) hb
    have k2 : (upd H1 b (.lst [V.str ">"])) b = _ := upd_same
    generalize upd H1 b (.lst [V.str ">"]) = H2 at e2 k2
    refine ⟨D, b, _, _, rfl, rfl, e2 _ _ g1, k2, by rw [List.length_map, List.length_map, sizeLine_eq]; show ps.length + 1 ≤ _; omega, fun c hc => ?_⟩
    have e3 := same_upd (o := .lst ((ps.map txP).map V.str ++ [V.str ">"])) (Same.refl H2) hc
    have k3 : (upd H2 c (.lst ((ps.map txP).map V.str ++ [V.str ">"]))) c = _ := upd_same
    generalize upd H2 c (.lst ((ps.map txP).map V.str ++ [V.str ">"])) = H3 at e3 k3
    have e13 := (e1.trans e2).trans e3
    refine ⟨⟨_, rfl⟩, _, rfl, _, rfl, r, _, 1, .ref t2, rfl, rfl, SqL.of (e13 _ _ hl), rfl, t2, rfl, ⟨_, SqT.of (e13 _ _ h2.choose_spec.1)⟩, fun D2 hD2 => ?_⟩
    refine lc_textL rfl (h2.le (Tle.of_same e13)) fine.o2 (by omega) hD2 fun H4 e4 g4 => ?_
    refine ⟨c, D2, _, _, rfl, rfl, e4 _ _ k3, g4, by simp only [List.length_append, List.length_map, List.length_cons, List.length_nil]; rw [sizeLine_eq]; omega, fun p hp => ?_⟩
    have e5 := same_upd (o := .lst (((ps.map txP).map V.str ++ [V.str ">"]) ++ (qs.map txP).map V.str)) (Same.refl H4) hp
    have k5 : (upd H4 p (.lst (((ps.map txP).map V.str ++ [V.str ">"]) ++ (qs.map txP).map V.str))) p = _ := upd_same
    generalize upd H4 p (.lst (((ps.map txP).map V.str ++ [V.str ">"]) ++ (qs.map txP).map V.str)) = H5 at e5 k5
    refine ⟨(" " : Str), p, ps.map txP ++ (">" : Str) :: qs.map txP, rfl, rfl, .inl (SqL.of (by rw [k5, List.append_assoc, List.map_append]; rfl)), ?_, k H5 ((e13.trans e4).trans e5)⟩
    have hs := sum_le (c := 20) (ps.map txP ++ (">" : Str) :: qs.map txP) (fun y hy => by
      rcases List.mem_append.mp hy with hy | hy
      · obtain ⟨p, hp, rfl⟩ := List.mem_map.mp hy
        exact len_txP (fine.o1 p hp).1 (fine.o1 p hp).2
      · rcases List.mem_cons.mp hy with rfl | hy
        · show 1 ≤ 20
          omega
        · obtain ⟨p, hp, rfl⟩ := List.mem_map.mp hy
          exact len_txP (fine.o2 p hp).1 (fine.o2 p hp).2)
    have hl : (ps.map txP ++ (">" : Str) :: qs.map txP).length ≤ 7 := by
      simp only [List.length_append, List.length_cons, List.length_map]; omega
    have lS : (" " : Str).length = 1 := rfl
    rw [lS]
    omega
end
end Fs
namespace Fs
open PySem PySem.Spec PyProof.Rows L2 SlX RZ StX
/-! ### repr of [sources, sinks, names] -/
def rReprF : List V → Hp → VK → Prop := fun xs H Q => ∃ (a t : Addr) (v1 v2 : V) (d1 d2 : PyData) (ob : Obj) (ns : List Str), xs = [.ref a] ∧ H a = some (.lst [v1, v2, .ref t]) ∧ a ≠ sysModules ∧ Dx H v1 d1 ∧ Dx H v2 d2 ∧ H t = some (.frz ob (.tup (ns.map V.str))) ∧ (∀ z ∈ ns, TOk z) ∧
  Fit 100000 30 (.list [d1, d2, .tuple (ns.map .str)]) ∧ Q (.str (PyData.shown (.list [d1, d2, .tuple (ns.map .str)]))) H
theorem call_reprF {X : Cx} {k : Nat} (hr : Rm k X.A) : CallR X (.builtin "repr") rReprF := by
  intro pins s σ H xs us Q I rel h
  obtain ⟨a, t, v1, v2, d1, d2, ob, ns, rfl, ha, na, hd1, hd2, ht, tk, ft, q⟩ := h
  obtain ⟨u, rfl, rx⟩ := vals1 rel
  cases rx
  obtain ⟨_, its, n, rv, e⟩ := I.hok _ _ ha
  match its, rv with
  | u1 :: u2 :: u3 :: [], .cons r1 (.cons r2 (.cons r3 .nil)) =>
    obtain ⟨as1, q1, n1⟩ := Dx.reads I d1 _ _ hd1 r1
    obtain ⟨as2, q2, n2⟩ := Dx.reads I d2 _ _ hd2 r2
    obtain rfl : u3 = Value.ref t := r3
    obtain ⟨e1, _, jts, rel2, o', e2, hc, m, hdat⟩ := I.hok _ _ ht
    obtain ⟨as3, q3, n3⟩ := Dx.readsAll I _ _ jts (dx_words (H := H) tk) rel2
    have r : Reads s.heap (.ref a) (.list [d1, d2, .tuple (ns.map .str)]) (a :: (as1 ++ (as2 ++ (as3 ++ [])))) :=
      Reads.list e rfl rfl (.cons q1 (.cons q2 (.cons (Reads.tuple e2 hc hdat (by simpa using q3)) .nil)))
    obtain ⟨i1, i2⟩ := hd1.short
    obtain ⟨j1, j2⟩ := hd2.short
    obtain ⟨k1, k2⟩ := (dx_words (H := H) tk).short
    have h1 : PyData.leavesShort 100 (.list [d1, d2, .tuple (ns.map .str)]) = true := by
      simp only [PyData.leavesShort, PyData.leavesShortAll, i1, j1, k1, Bool.and_self]
    have h2 : PyData.showable (.list [d1, d2, .tuple (ns.map .str)]) = true := by
      simp only [PyData.showable, PyData.showableAll, i2, j2, k2, Bool.and_self]
    have h3 := PyData.shown_le 100 (by decide) _ h1
    have h4 := ft.we
    have h5 := ft.de
    have h6 := hr.rm.units
    exact repr_of_reads' r h2 (fun _ => by simp [n1, n2, n3, Ne.symm na]) hr.gd (by omega) (fun _ _ e => e) (fun h' u tk hk => ⟨.str (PyData.shown _), H, I.kept hk, ⟨u, rfl⟩, q⟩) (by rw [sizeLine_eq]; omega)
end Fs
namespace Fs
open PySem PySem.Spec PyProof.Rows L2 SlX RZ StX
section
variable {P : Program} {w : World} {K : PySem.W.Frag} {mg : Str → Option Value} {base : Heap} {C SO : Addr}
theorem bools_read {h : Heap} : ∀ {bs : List Bool} {us : List Value}, Vals (bs.map V.bl) us → ∃ as, ReadsAll h us (bs.map PyData.bool) as
  | [], _, .nil => ⟨_, .nil⟩
  | b :: bs, _, .cons r t => by
    obtain ⟨as, q⟩ := bools_read t
    cases r
    exact ⟨_, .cons (.bool b) q⟩
theorem bools_eqv : ∀ xs ys : List Bool, PyData.eqvAll (xs.map PyData.bool) (ys.map PyData.bool) = decide (xs = ys)
  | [], [] => by simp [PyData.eqvAll]
  | [], _ :: _ => by simp [PyData.eqvAll]
  | _ :: _, [] => by simp [PyData.eqvAll]
  | x :: xs, y :: ys => by
    simp only [List.map_cons, PyData.eqvAll, PyData.eqv, bools_eqv xs ys]
    by_cases h1 : x = y
    · simp [h1]
    · simp [h1]
theorem bools_can : ∀ bs : List Bool, PyData.canLayAll0 (bs.map PyData.bool) = true ∧ PyData.depthAll (bs.map PyData.bool) = 0
  | [] => ⟨by simp only [List.map_nil, PyData.canLayAll0], by simp only [List.map_nil, PyData.depthAll]⟩
  | b :: bs => by
    obtain ⟨i, j⟩ := bools_can bs
    exact ⟨by simp only [List.map_cons, PyData.canLayAll0, PyData.canLay0, i, Bool.and_self], by simp only [List.map_cons, PyData.depthAll, PyData.depth, j]; omega⟩
theorem bools_shaped (bs : List Bool) : SeqAt.shaped (.list (bs.map PyData.bool)) = true := by
  obtain ⟨i, j⟩ := bools_can bs
  unfold SeqAt.shaped
  have h2 : PyData.depth (.list (bs.map PyData.bool)) ≤ 1 := by simp only [PyData.depth, j]; omega
  rw [decide_eq_true (by omega), Bool.and_true]
  simp only [PyData.canLay0, i]
/-- lists of truth values, the same -/
def rEqB : R2 := fun x y H Q => ∃ (a b : Addr) (xs ys : List Bool), x = .ref a ∧ y = .ref b ∧ H a = some (.lst (xs.map V.bl)) ∧ H b = some (.lst (ys.map V.bl)) ∧ Q (.bl (decide (xs = ys))) H
theorem op_eqB {X : Cx} (hu : X.A.units + 64 < cLine) : OpR X (compareOp .Eq) rEqB := by
  intro pins s σ H x y v u Q I rx ry h
  obtain ⟨a, b, xs, ys, rfl, rfl, ha, hb, q⟩ := h
  cases rx
  cases ry
  obtain ⟨_, its, n, rv, e⟩ := I.hok _ _ ha
  obtain ⟨_, jts, m, rw', e'⟩ := I.hok _ _ hb
  obtain ⟨as, r1⟩ := bools_read (h := s.heap) rv
  obtain ⟨bs, r2⟩ := bools_read (h := s.heap) rw'
  refine SeqAt.compareEq_shaped (Reads.list e rfl rfl (by simpa using r1)) (Reads.list e' rfl rfl (by simpa using r2)) (bools_shaped xs) (bools_shaped ys) hu ⟨.bl _, H, I, rfl, ?_⟩
  have : PyData.eqv (.list (xs.map PyData.bool)) (.list (ys.map PyData.bool)) = decide (xs = ys) := by
    simp only [PyData.eqv]
    exact bools_eqv xs ys
  rw [this]
  exact q
theorem rep_flat : ∀ n : Nat, (List.replicate n [V.bl false]).flatten = (List.replicate n false).map V.bl
  | 0 => rfl
  | n + 1 => by rw [List.replicate_succ, List.flatten_cons, rep_flat n, List.replicate_succ, List.map_cons]; rfl
def oddW : List Str := ["zz", "qa", "x", "put", "end", "", "X", "a b"]
theorem filt_snoc {ns : List Str} {l : List Str} {i : Nat} {z : Str} (h : l[i]? = some z) : (l.take (i + 1)).filter (fun z => decide (z ∉ ns)) = (l.take i).filter (fun z => decide (z ∉ ns)) ++ (if z ∈ ns then [] else [z]) := by
  rw [take_snoc h, List.filter_append]
  by_cases c : z ∈ ns
  · simp [c]
  · simp [c]
theorem mk_get2 {H : Hp} {t1 t2 : Addr} {ps qs : Parts} {R : Addr → Hp → Prop} {E : XK} (h1 : PartsT H t1 ps) (h2 : PartsT H t2 qs) (fine : Fine ps qs) (q : ∀ (z : Addr) (H' : Hp), Same H H' → H z = none → StAt H' z C ps qs → R z H') :
    ∀ x dx, H x = none → H dx = none → dx ≠ x → spInit C [.ref x, .ref t1, .ref t2] (upd (upd H dx (.own x)) x (.ins C dx [])) (fun v H2 => v = .non ∧ R x H2) E := by
  intro x dx hx hdx hne
  have sm : Same H (upd (upd H dx (.own x)) x (.ins C dx [])) := fun b o q => by
    rw [upd_ne (ne_of_none q hx), upd_ne (ne_of_none q hdx)]; exact q
  exact ⟨x, dx, t1, t2, ps, qs, H, rfl, upd_same, hne, hx, hdx, sm, h1, h2, fine, fun H' e st => ⟨rfl, q x H' e hx st⟩⟩
/-- the names of two parts, a comprehension -/
theorem lc_names56 {H : Hp} {t D : Addr} {σ : L2.St} {v0 v1 v2 v3 v4 v7 v8 v9 : Option V} {ps : Parts} {Qd : Hp → Prop} (hσ : σ = [v0, v1, v2, v3, v4, none, none, v7, v8, v9]) (ht : PartsT H t ps) (hps : ps.length ≤ 1000) (hD : H D = none)
    (q : ∀ H' : Hp, Same H H' → H' D = some (.lst ((namesP ps).map V.str)) → Qd H') :
    ∃ W : Nat → Nat → Hp → Prop, (∃ m, W 0 m (upd H D (.lst []))) ∧ ∀ i m H, W i m H →
      ((Itt K t).stop i H ∧ Qd H) ∨ ((Itt K t).go i H ∧ ∃ Nx : Hp → Prop, (∀ H', Nx H' → ∃ m', m' < m ∧ W (i + 1) m' H') ∧ ∀ x H', (Itt K t).yld i H x H' → gTup K 2 (gCons (gName 5) (gCons (gName 6) gNil)) x (wipe σ [5, 6]) H' fun σ2 H2 => wipe σ2 [5, 6] = wipe σ [5, 6] ∧ tYes σ2 H2 fun b H3 =>
        if b = true then tVar 5 σ2 H3 fun y H4 => ∃ acc, H4 D = some (.lst acc) ∧ acc.length < sizeLine ∧ Nx (upd H4 D (.lst (acc ++ [y]))) else Nx H3) := by
  subst hσ
  obtain ⟨as, et, pr⟩ := ht
  have lp := paired_len pr
  have ln : (namesP ps).length = ps.length := List.length_map ..
  refine lc_tup (K := K) (a := t) (xs := as.map V.ref) (g := gTup K 2 (gCons (gName 5) (gCons (gName 6) gNil))) (tt := tYes) (te := tVar 5) (vs := [5, 6]) (fun i H1 => Same H H1 ∧ H1 D = some (.lst (((namesP ps).take i).map V.str))) ?_ ?_ ?_ ?_
  · exact ⟨same_upd (Same.refl H) hD, upd_same⟩
  · rintro i H1 _ ⟨g, _⟩
    exact SqT.of (g _ _ et)
  · rintro i y H1 hy ⟨g, g1⟩
    rw [List.getElem?_map] at hy
    obtain ⟨p, hp, rfl⟩ := Option.map_eq_some_iff.mp hy
    obtain ⟨⟨m, sg⟩, hm, hpa⟩ := paired_get pr hp
    have hpa1 := g _ _ hpa
    have ht : (namesP ps)[i]? = some m := by unfold namesP; rw [List.getElem?_map, hm]; rfl
    refine ⟨p, _, rfl, SqT.of hpa1, rfl, _, _, rfl, _, _, rfl, rfl, rfl, _, rfl, _, g1, ?_, same_mut g hD, ?_⟩
    · have h9 : ((namesP ps).take i).length ≤ (namesP ps).length := List.length_take_le' ..
      rw [List.length_map, sizeLine_eq]; omega
    · rw [upd_same, take_snoc ht, List.map_append]; rfl
  · rintro H1 ⟨g, g1⟩
    rw [List.length_map, List.take_of_length_le (by omega)] at g1
    exact q H1 g g1
def spToldL (C : Addr) : Sp := fun vs H Q _ => ∃ (x r : Addr) (ps qs : Parts), vs = [.ref x, .ref r] ∧ StAt H x C ps qs ∧ RecAt H r ps qs ∧ Fine ps qs ∧ ∀ H', Same H H' → Q (.bl true) H'
abbrev s_is_told : Stmt := top 35
theorem sc_is_told : FnScope ["streams", "record", "names", "kind", "at", "name", "signs", "told", "odd", "value"] ["streams", "record"] (defScope s_is_told) := ⟨rfl, rfl, rfl, by decide +kernel, rfl, by decide +kernel, by decide +kernel⟩
theorem fit_told {ps qs : Parts} (fine : Fine ps qs) : Fit 100000 30 (.list [dParts ps, dParts qs, .tuple ((namesP (ps ++ qs)).map .str)]) := by
  obtain ⟨l1, l3, m3, nd⟩ := fine.out
  have a1 := fit_parts _ (okP_part fine.o1)
  have a2 := fit_parts _ (okP_part fine.o2)
  have a3 : FitA 60 1 ((namesP (ps ++ qs)).map PyData.str) := by
    have h : ∀ (l : List Str), (∀ z ∈ l, z.length ≤ 8) → FitA (9 * l.length) 1 (l.map PyData.str) := fun l => by
      induction l with
      | nil => exact fun _ => .nil
      | cons z l ih =>
        intro h
        exact (FitA.cons (fit_str (h z (List.mem_cons_self ..))) (ih fun y hy => h y (List.mem_cons_of_mem _ hy))).le (by rw [List.length_cons]; omega) (Nat.le_refl _)
    refine (h _ fun z hz => ?_).le ?_ (Nat.le_refl _)
    · obtain ⟨p, hp, rfl⟩ := List.mem_map.mp hz
      rcases List.mem_append.mp hp with q | q
      · exact (lo_name (fine.o1 p q).1).len
      · exact (lo_name (fine.o2 p q).1).len
    · unfold namesP
      rw [List.length_map, List.length_append]; omega
  rw [List.length_map] at a1 a2
  exact ((FitA.cons a1.tup (FitA.cons (a2.tup) (FitA.cons (a3.tup) (.nil : FitA 0 2 [])))).lst).le (by omega) (by omega)
theorem cal_told {fI : Addr} {fdI : FuncData} (T : Bs mg) (Z : Sx K mg C SO) (D : Df K mg "_law_is_told" s_is_told ["streams", "record"]) (PS : PrX P w K mg base C "sources" 3) (PK : PrX P w K mg base C "sinks" 2) (PN : PrX P w K mg base C "names" 0)
    (M_len : Mth P w K mg base CX0 C "__len__" 1 (spLen C)) (M_str : Mth P w K mg base CX0 C "__str__" 1 (spStr' C)) (C_text : Cal P w K mg base 1 "_law_text" spLText) (M_signs_of : Mth P w K mg base CX0 C "signs_of" 3 (spSignsOf C))
    (M_is_source : Mth P w K mg base CX0 C "is_source" 3 (spPlace C fun j m => .bl (decide (j < m)))) (M_index_of : Mth P w K mg base CX0 C "index_of" 3 (spPlace C fun j m => .int ((if j < m then j else j - m : Nat) : Int)))
    (M_contains : Mth P w K mg base CX0 C "__contains__" 1 (spCont C)) (M_eq : Mth P w K mg base CX0 C "__eq__" 1 (spEq K C)) (NE : NeF K C) (MK : L2.Mk K C fI) (C_init : FnG P w K mg base CX0 5 fI fdI ["self", "sources", "sinks"] (spInit C)) (BI : Binds K fdI ["self", "sources", "sinks"] []) :
    Cal P w K mg base 7 "_law_is_told" (spToldL C) := by
  refine D.cal sc_is_told (fun vs H Q E h => ?_) (fun f cdv A outer s H vs Q E hr h => ?_)
  · obtain ⟨x, r, ps, qs, rfl, _⟩ := h
    rfl
  · obtain ⟨x, r, ps, qs, rfl, st, rec, fine, k⟩ := h
    refine ⟨_, pss_cons (ps_set (i := 2) sc_is_told.nd rfl (.inr rfl) (pe_lc (own := [("name", 5), ("signs", 6)]) (te := (tVar 5)) (g := gTup K 2 (gCons (gName 5) (gCons (gName 6) gNil))) rfl sc_is_told.nd (pi_tup (pe_op op_catA (pe_ix ix_list (pv 1) pe_int (fun _ _ => rfl)) (pe_ix ix_list (pv 1) pe_int (fun _ _ => rfl)))) (blkOk_by (N := ["streams", "record", "names", "kind", "at", "name", "signs", "told", "odd", "value"]) (sc := defScope s_is_told) (by decide +kernel)) (fun _ _ _ _ _ => (pg_tup rfl (pgs_cons (pg_name (i := 5) sc_is_told.nd rfl (Or.inl rfl)) (pgs_cons (pg_name (i := 6) sc_is_told.nd rfl (Or.inl rfl)) pgs_nil)))) (fun _ _ _ _ _ => pts_nil) (fun _ _ _ _ _ => (pv 5))))
      (pss_cons (ps_if (pt_cmpR op_ne (pb (call_reprF hr) T.z_repr (pa_cons (pe_lstN (pa_cons (pe_prop PS Z.sc hr (pv 0)) (pa_cons (pe_prop PK Z.sc hr (pv 0)) (pa_cons (pe_prop PN Z.sc hr (pv 0)) pa_nil)))) pa_nil)) (pb (call_reprD hr) T.z_repr (pa_cons (pe_lstN (pa_cons (pe_ix ix_list (pv 1) pe_int (fun _ _ => rfl)) (pa_cons (pe_ix ix_list (pv 1) pe_int (fun _ _ => rfl)) (pa_cons (pt call_tuple_of T.z_tuple (pa_cons (pv 2) pa_nil)) pa_nil)))) pa_nil)) (nomark _))
        (pss_one (ps_ret pe_bl))
        pss_nil)
      (pss_cons (ps_if (PW.pt (pw_or (pt_cmpR op_ne (pb (call_lenM M_len hr) T.z_len (pa_cons (pv 0) pa_nil)) (pb call_len3 T.z_len (pa_cons (pv 2) pa_nil)) (nomark _)) (pw_or1 (pt_cmpR op_ne (pt (call_strM M_str hr) T.z_str (pa_cons (pv 0) pa_nil)) (pc C_text hr (pa_cons (pv 1) pa_nil)) (nomark _)))))
        (pss_one (ps_ret pe_bl))
        pss_nil)
      (pss_cons (ps_for PassesOwn.never rfl (pi_range1 (by rfl) T.z_range (pa_cons pe_int pa_nil)) (pg_name (i := 3) sc_is_told.nd rfl (Or.inl rfl))
        (pss_one (ps_for PassesOwn.never rfl (pi_range1 (by rfl) T.z_range (pa_cons (pb call_len3 T.z_len (pa_cons (pe_ix ix_list (pv 1) (pv 3) (fun _ _ => rfl)) pa_nil)) pa_nil)) (pg_name (i := 4) sc_is_told.nd rfl (Or.inl rfl))
          (pss_cons (ps_asg (pe_ix ix_tup (pe_ix ix_list (pv 1) (pv 3) (fun _ _ => rfl)) (pv 4) (fun _ _ => rfl)) (pg_tup rfl (pgs_cons (pg_name (i := 5) sc_is_told.nd rfl (Or.inl rfl)) (pgs_cons (pg_name (i := 6) sc_is_told.nd rfl (Or.inl rfl)) pgs_nil))))
          (pss_cons (ps_set (i := 7) sc_is_told.nd rfl (.inl rfl) (pe_lstN (pa_cons (pe_mthd (E := fun _ => E0) M_signs_of Z.sc hr (fun _ => passAt0) (pv 0) (pa_cons (pv 5) pa_nil)) (pa_cons (pe_mthd (E := fun _ => E0) M_is_source Z.sc hr (fun _ => passAt0) (pv 0) (pa_cons (pv 5) pa_nil)) (pa_cons (pe_mthd (E := fun _ => E0) M_index_of Z.sc hr (fun _ => passAt0) (pv 0) (pa_cons (pv 5) pa_nil)) (pa_cons (pe_cmpR (op_inM M_contains hr) (pv 5) (pv 0) (by rfl)) pa_nil))))))
          (pss_one (ps_if (pt_cmpR op_ne (pb (call_reprD hr) T.z_repr (pa_cons (pv 7) pa_nil)) (pb (call_reprD hr) T.z_repr (pa_cons (pe_lstN (pa_cons (pv 6) (pa_cons (pe_cmpR op_eq (pv 3) pe_int (nomark _)) (pa_cons (pv 4) (pa_cons pe_bl pa_nil))))) pa_nil)) (nomark _))
            (pss_one (ps_ret pe_bl))
            pss_nil)))))))
      (pss_cons (ps_setLc (i := 8) (own := [("name", 5)]) (te := (tVar 5)) (tt := (tTest (tOp (rIn K true) (tVar 5) (tVar 2)))) rfl sc_is_told.nd rfl rfl (sw_true rfl rfl rfl (by decide +kernel)) (pi_tup (pe_tup (pa_cons pe_str (pa_cons pe_str (pa_cons pe_str (pa_cons pe_str (pa_cons pe_str (pa_cons pe_str (pa_cons pe_str (pa_cons pe_str pa_nil)))))))))) (blkOk_by (N := ["streams", "record", "names", "kind", "at", "name", "signs", "told", "odd", "value"]) (sc := defScope s_is_told) (by decide +kernel)) (fun _ _ _ _ _ => (pg_name (i := 5) sc_is_told.nd rfl (Or.inl rfl))) (fun _ _ _ _ _ => (pts_one (pt_cmpR op_notIn_seq (pv 5) (pv 2) (by rfl)))) (fun _ _ _ _ _ => (pv 5)))
      (pss_cons (ps_setLc (i := 7) (own := [("value", 9)]) (te := (tOp (rInM C (spCont C) false) (tVar 9) (tVar 0))) rfl sc_is_told.nd rfl rfl (sw_true rfl rfl rfl (by decide +kernel)) (pi_list (pe_op op_cat (pv 8) (pe_lstN (pa_cons pe_non (pa_cons pe_int (pa_cons (pe_tup (pa_cons pe_str pa_nil)) (pa_cons (pe_lstN (pa_cons pe_str pa_nil)) (pa_cons pe_dnewK (pa_cons pe_bl (pa_cons (pe_ix ix_list (pv 1) pe_int (fun _ _ => rfl)) (pa_cons (pe_op op_add_str (pe_ix ix_list (pv 2) pe_int (fun _ _ => rfl)) pe_str) pa_nil))))))))))) (blkOk_by (N := ["streams", "record", "names", "kind", "at", "name", "signs", "told", "odd", "value"]) (sc := defScope s_is_told) (by decide +kernel)) (fun _ _ _ _ _ => (pg_name (i := 9) sc_is_told.nd rfl (Or.inl rfl))) (fun _ _ _ _ _ => pts_nil) (fun _ _ _ _ _ => (pe_cmpR (op_inM M_contains hr) (pv 9) (pv 0) (by rfl))))
      (pss_one (ps_ret (pe_and (pe_cmpR (op_eqB hr.rm.units) (pv 7) (pe_op op_rep (pe_lstN (pa_cons pe_bl pa_nil)) (pb call_len3 T.z_len (pa_cons (pv 7) pa_nil))) (nomark _)) (pe_and (pe_cmpR (op_eqM M_eq hr) (pv 0) (pe_makeG (E := fun _ => E0) MK C_init hr Z.gC BI (fun _ => passAt0) (pa_cons (pe_ix ix_list (pv 1) pe_int (fun _ _ => rfl)) (pa_cons (pe_ix ix_list (pv 1) pe_int (fun _ _ => rfl)) pa_nil))) (nomark _)) (pe_one (pe_not (pe_cmpR (op_neM M_eq NE hr) (pv 0) (pv 0) (nomark _))))))))))))), ?_⟩
    obtain ⟨l1, l3, m3, nd⟩ := fine.out
    have okA : okP (ps ++ qs) := fun p hp => (List.mem_append.mp hp).elim (fine.o1 p) (fine.o2 p)
    have lA : (ps ++ qs).length ≤ 6 := by rw [List.length_append]; omega
    have tokN : ∀ z ∈ namesP (ps ++ qs), TOk z := fun z hz => by
      obtain ⟨p, hp, rfl⟩ := List.mem_map.mp hz
      exact (lo_name (okA p hp).1).tok (by decide)
    obtain ⟨t1, t2, hl, h1, h2⟩ := rec
    refine ⟨_, rfl, r, _, 0, .ref t1, rfl, rfl, SqL.of hl, rfl, _, rfl, r, _, 1, .ref t2, rfl, rfl, SqL.of hl, rfl, ?_⟩
    refine parts_cat h1 h2 (by omega) fun t H1 e1 hp1 => ?_
    refine ⟨t, rfl, ⟨_, SqT.of hp1.choose_spec.1⟩, fun D hD => ?_⟩
    refine lc_names56 rfl hp1 (by omega) hD fun H2 e2 g2 => ?_
    have e12 := e1.trans e2
    obtain ⟨dx, s1, s2, s3, s4, sl, a1, a2, ⟨ob, hob, a3⟩, a4⟩ := st.le e12
    refine ⟨_, rfl, x, dx, _, rfl, sl, x, dx, _, _, rfl, sl, rfl, _, rfl, x, dx, _, rfl, sl, x, dx, _, _, rfl, sl, rfl, _, rfl, x, dx, _, rfl, sl, x, dx, _, _, rfl, sl, rfl, by show 3 ≤ sizeLine; decide, fun p hp np => ?_⟩
    have e3 := same_upd (o := .lst [V.ref s1, .ref s2, .ref s3]) (Same.refl H2) hp
    have k3 : (upd H2 p (.lst [V.ref s1, .ref s2, .ref s3])) p = _ := upd_same
    generalize upd H2 p (.lst [V.ref s1, .ref s2, .ref s3]) = H3 at e3 k3
    refine ⟨p, s3, _, _, _, _, ob, _, rfl, k3, np, (parts_dx0 a1 fine.o1).le e3, (parts_dx0 a2 fine.o2).le e3, e3 _ _ a3, tokN, fit_told fine, ?_⟩
    have e13 := e12.trans e3
    refine ⟨_, rfl, r, _, 0, .ref t1, rfl, rfl, SqL.of (e13 _ _ hl), rfl, _, rfl, r, _, 1, .ref t2, rfl, rfl, SqL.of (e13 _ _ hl), rfl, _, rfl, D, _, rfl, .inl ⟨SqL.of (e3 _ _ g2), fun u1 hu1 => ?_⟩⟩
    have e4 := same_upd (o := .tup ((namesP (ps ++ qs)).map V.str)) (Same.refl H3) hu1
    have k4 : (upd H3 u1 (.tup ((namesP (ps ++ qs)).map V.str))) u1 = _ := upd_same
    generalize upd H3 u1 (.tup ((namesP (ps ++ qs)).map V.str)) = H4 at e4 k4
    refine ⟨by show 3 ≤ sizeLine; decide, fun p2 hp2 np2 => ?_⟩
    have e5 := same_upd (o := .lst [V.ref t1, .ref t2, .ref u1]) (Same.refl H4) hp2
    have k5 : (upd H4 p2 (.lst [V.ref t1, .ref t2, .ref u1])) p2 = _ := upd_same
    generalize upd H4 p2 (.lst [V.ref t1, .ref t2, .ref u1]) = H5 at e5 k5
    have e15 := (e13.trans e4).trans e5
    refine ⟨p2, _, rfl, .lst k5 np2 (.cons (parts_dx0 (h1.le (Tle.of_same e15)) fine.o1) (.cons (parts_dx0 (h2.le (Tle.of_same e15)) fine.o2) (.cons (.tup (e5 _ _ k4) (dx_words tokN)) .nil))), fit_told fine, rfl, _, rfl, ?_⟩
    rw [decide_eq_true (show V.str (PyData.shown (.list [dParts ps, dParts qs, .tuple ((namesP (ps ++ qs)).map .str)])) = V.str (PyData.shown (.list [dParts ps, dParts qs, .tuple ((namesP (ps ++ qs)).map .str)])) from rfl)]
    refine iteF ?_
    have gD := e5 _ _ (e4 _ _ (e3 _ _ g2))
    have st5 := st.le e15
    obtain ⟨dx5, _, _, _, _, sl5, _⟩ := st5
    refine ⟨_, rfl, x, dx5, _, rfl, sl5, x, ps, qs, rfl, st.le e15, fun H6 e6 => ⟨_, rfl, by omega, _, rfl, _, _, rfl, Of3.lst (e6 _ _ gD), rfl, _, rfl, ?_⟩⟩
    have lN : ((namesP (ps ++ qs)).map V.str).length = (ps ++ qs).length := by unfold namesP; rw [List.length_map, List.length_map]
    rw [lN, decide_eq_true rfl]
    refine iteF ?_
    refine ⟨_, rfl, x, dx5, _, rfl, slt_mono sl5 e6, x, ps, qs, rfl, st.le (e15.trans e6), fine, fun H7 e7 => ⟨_, rfl, _, rfl, r, ps, qs, rfl, RecAt.le ((e15.trans e6).trans e7) ⟨t1, t2, hl, h1, h2⟩, fine, fun H8 e8 => ⟨rfl, _, rfl, ?_⟩⟩⟩
    rw [decide_eq_true (show V.str (strP ps qs) = V.str (strP ps qs) from rfl)]
    refine iteF ?_
    have e18 := ((e15.trans e6).trans e7).trans e8
    have gD8 := e8 _ _ (e7 _ _ (e6 _ _ gD))
    have e28 : Same H2 H8 := ((((((e3.trans e4).trans e5).trans e6).trans e7).trans e8))
    refine ⟨2, rfl, by decide, by decide, for_range (fun i σ H9 => ∃ v3 v4 v5 v6 v7 v8 v9 : Option V, σ = [some (.ref x), some (.ref r), some (.ref D), v3, v4, v5, v6, v7, v8, v9] ∧ Same H8 H9) ?_ ?_ ?_⟩
    · exact ⟨_, _, _, _, _, _, _, rfl, Same.refl H8⟩
    · rintro i σ H9 hi ⟨v3, v4, v5, v6, v7, v8, v9, rfl, e9⟩
      obtain ⟨tk, gs, off, c1, c2, c3, c4, c5⟩ : ∃ (tk : Addr) (gs : Parts) (off : Nat), atI [V.ref t1, .ref t2] (0 + (i : Int)) = some (.ref tk) ∧ PartsT H tk gs ∧ gs.length ≤ 3 ∧ (∀ j p, gs[j]? = some p → (ps ++ qs)[off + j]? = some p) ∧
          ∀ j, j < gs.length → decide (off + j < ps.length) = decide (i = 0) ∧ (if off + j < ps.length then off + j else off + j - ps.length) = j := by
        match i, hi with
        | 0, _ =>
          refine ⟨t1, ps, 0, rfl, h1, l3, fun j p hj => ?_, fun j hj => ?_⟩
          · rw [Nat.zero_add, List.getElem?_append_left (List.getElem?_eq_some_iff.mp hj).1]
            exact hj
          · rw [Nat.zero_add, decide_eq_true hj, if_pos hj]
            exact ⟨rfl, rfl⟩
        | 1, _ =>
          refine ⟨t2, qs, ps.length, rfl, h2, m3, fun j p hj => ?_, fun j hj => ?_⟩
          · rw [List.getElem?_append_right (by omega), Nat.add_sub_cancel_left]
            exact hj
          · rw [decide_eq_false (by omega), if_neg (by omega), Nat.add_sub_cancel_left]
            exact ⟨rfl, rfl⟩
      have e19 := e18.trans e9
      obtain ⟨as, etk, prk⟩ := c2
      have lg := paired_len prk
      refine ⟨_, rfl, _, rfl, r, _, _, .ref tk, rfl, rfl, SqL.of (e19 _ _ hl), c1, _, _, rfl, Of3.tup (e19 _ _ etk), _, rfl, by omega, by rw [List.length_map]; omega, ?_⟩
      refine for_range (fun j σ H10 => ∃ v4 v5 v6 v7 v8 v9 : Option V, σ = [some (.ref x), some (.ref r), some (.ref D), some (.int (0 + (i : Int))), v4, v5, v6, v7, v8, v9] ∧ Same H8 H10) ?_ ?_ ?_
      · exact ⟨_, _, _, _, _, _, rfl, e9⟩
      · rintro j σ H10 hj ⟨v4, v5, v6, v7, v8, v9, rfl, e10⟩
        have hj' : j < gs.length := by
          rw [List.length_map] at hj
          omega
        obtain ⟨d1, d2⟩ := c5 j hj'
        have hja : j < as.length := by omega
        obtain ⟨⟨n, sg⟩, hns, hpa⟩ := paired_get prk (List.getElem?_eq_getElem hja)
        have hA := c4 j _ hns
        have hok := okA _ (List.mem_of_getElem? hA)
        have lo8 := lo_name hok.1
        have e20 := e18.trans e10
        have etk2 := e20 _ _ etk
        have hq2 := e20 _ _ hpa
        have hat : atI (as.map V.ref) (0 + (j : Int)) = some (.ref as[j]) := by
          rw [Int.zero_add]
          exact atI_nat (by rw [List.getElem?_map, List.getElem?_eq_getElem hja]; rfl)
        refine ⟨_, rfl, _, rfl, r, _, _, .ref tk, rfl, rfl, SqL.of (e20 _ _ hl), c1, _, rfl, tk, _, _, .ref as[j], rfl, rfl, SqT.of etk2, hat, as[j], _, rfl, SqT.of hq2, rfl, _, _, rfl, _, _, rfl, rfl, ?_⟩
        obtain ⟨dy, _, _, _, _, sy, _⟩ := st.le e20
        have lo9 : Lo 9 n := ⟨Nat.le_trans lo8.len (by decide), lo8.cod⟩
        refine ⟨_, rfl, x, dy, _, rfl, sy, _, rfl, x, n, sg, ps, qs, rfl, st.le e20, lo9, nd, List.mem_of_getElem? hA, fun H11 e11 => ?_⟩
        have e21 := e20.trans e11
        refine ⟨_, rfl, x, dy, _, rfl, slt_mono sy e11, _, rfl, x, n, sg, _, ps, qs, rfl, st.le e21, lo9, nd, hA, fun H12 e12 => ?_⟩
        have e22 := e21.trans e12
        refine ⟨_, rfl, x, dy, _, rfl, slt_mono sy (e11.trans e12), _, rfl, x, n, sg, _, ps, qs, rfl, st.le e22, lo9, nd, hA, fun H13 e13 => ?_⟩
        have e23 := e22.trans e13
        refine ⟨_, rfl, _, rfl, x, dy, _, rfl, slt_mono sy ((e11.trans e12).trans e13), x, .str n, _, ps, qs, rfl, st.le e23, .str n (lo8.tok (by decide)), fun H14 e14 => ⟨_, rfl, ?_⟩⟩
        dsimp only
        rw [d1, d2, show inD (namesP (ps ++ qs)) (.str n) = true from decide_eq_true (mem_names (List.mem_of_getElem? hA)), show (if false = true then !true else true) = true from rfl]
        refine ⟨by show 4 ≤ sizeLine; decide, fun p3 hp3 np3 => ?_⟩
        have e15 := same_upd (o := .lst [V.str sg, .bl (decide (i = 0)), .int (j : Nat), .bl true]) (Same.refl H14) hp3
        have k15 : (upd H14 p3 (.lst [V.str sg, .bl (decide (i = 0)), .int (j : Nat), .bl true])) p3 = _ := upd_same
        generalize upd H14 p3 (.lst [V.str sg, .bl (decide (i = 0)), .int (j : Nat), .bl true]) = H15 at e15 k15
        have dxs : ∀ {H' : Hp} {p : Addr}, H' p = some (.lst [V.str sg, .bl (decide (i = 0)), .int (j : Nat), .bl true]) → p ≠ sysModules → Dx H' (.ref p) (.list [.str sg, .bool (decide (i = 0)), .int (j : Nat), .bool true]) := fun hk hn => by
          obtain ⟨b1, b2⟩ : (((j : Nat) : Int).natAbs.log2 < 1920 ∧ ((PyData.int (j : Nat)).shown).length ≤ 100) := by
            have : ∀ j : Nat, j < 3 → (((j : Nat) : Int).natAbs.log2 < 1920 ∧ ((PyData.int (j : Nat)).shown).length ≤ 100) := by decide +kernel
            exact this j (by omega)
          exact .lst hk hn (.cons (.str _ ((lo_signs hok.2).tok (by decide))) (.cons (.bl _) (.cons (.int _ b1 b2) (.cons (.bl _) .nil))))
        have fitd : Fit 100000 30 (.list [.str sg, .bool (decide (i = 0)), .int (j : Nat), .bool true]) := by
          have lsg : sg.length ≤ 8 := (lo_signs hok.2).len
          have : ∀ j : Nat, j < 3 → (PyData.int (j : Nat)).weight ≤ 100 := by decide +kernel
          have wj := this j (by omega)
          have b0 : ∀ b : Bool, (PyData.bool b).weight ≤ 100 := by decide +kernel
          exact ⟨by
            have b1 := b0 (decide (i = 0))
            have b2 := b0 true
            have b3 : (PyData.str sg).weight ≤ 100 := by simp only [PyData.weight]; show sg.length ≤ 100; omega
            generalize PyData.str sg = y1 at b3 ⊢
            generalize PyData.bool (decide (i = 0)) = y2 at b1 ⊢
            generalize PyData.int (j : Nat) = y3 at wj ⊢
            generalize PyData.bool true = y4 at b2 ⊢
            simp only [PyData.weight, PyData.weightAll]; omega, by simp only [PyData.depth, PyData.depthAll]; omega⟩
        refine ⟨_, rfl, p3, _, rfl, dxs k15 np3, fitd, ?_⟩
        refine ⟨_, rfl, _, rfl, rfl, _, rfl, ?_⟩
        have eb : decide (V.int (0 + (i : Int)) = V.int 0) = decide (i = 0) := by
          rw [dec_int]
          by_cases c : i = 0
          · rw [decide_eq_true c, c]; rfl
          · rw [decide_eq_false c]; exact beq_eq_false_iff_ne.mpr (by omega)
        rw [eb, show (0 + ((j : Nat) : Int)) = ((j : Nat) : Int) from Int.zero_add _]
        refine ⟨by show 4 ≤ sizeLine; decide, fun p4 hp4 np4 => ?_⟩
        have e16 := same_upd (o := .lst [V.str sg, .bl (decide (i = 0)), .int (j : Nat), .bl true]) (Same.refl H15) hp4
        have k16 : (upd H15 p4 (.lst [V.str sg, .bl (decide (i = 0)), .int (j : Nat), .bl true])) p4 = _ := upd_same
        generalize upd H15 p4 (.lst [V.str sg, .bl (decide (i = 0)), .int (j : Nat), .bl true]) = H16 at e16 k16
        refine ⟨p4, _, rfl, dxs k16 np4, fitd, rfl, _, rfl, ?_⟩
        rw [decide_eq_true (show V.str (PyData.shown (.list [.str sg, .bool (decide (i = 0)), .int (j : Nat), .bool true])) = V.str (PyData.shown (.list [.str sg, .bool (decide (i = 0)), .int (j : Nat), .bool true])) from rfl)]
        refine iteF ?_
        exact ⟨_, _, _, _, _, _, rfl, (((((e10.trans e11).trans e12).trans e13).trans e14).trans e15).trans e16⟩
      · rintro σ H10 ⟨v4, v5, v6, v7, v8, v9, rfl, e10⟩
        exact ⟨_, _, _, _, _, _, _, rfl, e10⟩
    · rintro σ H9 ⟨v3, v4, v5, v6, v7, v8, v9, rfl, e9⟩
      have e19 := e18.trans e9
      have gD9 := e9 _ _ gD8
      refine ⟨by show 8 ≤ sizeLine; decide, fun q hq => ?_⟩
      have e10 := same_upd (o := .tup (oddW.map V.str)) (Same.refl H9) hq
      have k10 : (upd H9 q (.tup (oddW.map V.str))) q = _ := upd_same
      have gD10 := e10 _ _ gD9
      refine ⟨q, rfl, ⟨_, SqT.of k10⟩, fun D2 hD2 => ?_⟩
      refine lc_tup (K := K) (a := q) (xs := oddW.map V.str) (fun i H11 => Same (upd H9 q (.tup (oddW.map V.str))) H11 ∧ H11 D2 = some (.lst (((oddW.take i).filter fun z => decide (z ∉ namesP (ps ++ qs))).map V.str))) ?_ ?_ ?_ ?_
      · exact ⟨same_upd (Same.refl _) hD2, upd_same⟩
      · rintro i H11 _ ⟨g, _⟩
        exact SqT.of (g _ _ k10)
      · rintro i y H11 hy ⟨g, g1⟩
        rw [List.getElem?_map] at hy
        obtain ⟨z, hz, rfl⟩ := Option.map_eq_some_iff.mp hy
        refine ⟨rfl, _, rfl, _, rfl, D, _, rfl, .inl (SqL.of (g _ _ gD10)), rfl, all_flat _, _, rfl, ?_⟩
        show (if (!inV (V.str z) ((namesP (ps ++ qs)).map V.str)) = true then _ else _)
        rw [inV_str, filt_snoc hz]
        by_cases c : z ∈ namesP (ps ++ qs)
        · rw [decide_eq_true c, if_pos c, List.append_nil]
          exact iteF ⟨g, g1⟩
        · rw [decide_eq_false c, if_neg c]
          refine iteT ?_
          refine ⟨_, rfl, _, g1, ?_, same_mut g hD2, ?_⟩
          · have h9 : ((oddW.take i).filter fun z => decide (z ∉ namesP (ps ++ qs))).length ≤ 8 := Nat.le_trans (List.length_filter_le ..) (List.length_take_le' ..)
            rw [List.length_map, sizeLine_eq]; omega
          · rw [upd_same, List.map_append]; rfl
      rintro H11 ⟨e11, g11⟩
      rw [List.length_map, List.take_of_length_le (Nat.le_refl _)] at g11
      have e20 := (e19.trans e10).trans e11
      have gD11 := e11 _ _ gD10
      obtain ⟨n0, hn0⟩ : ∃ n0, (namesP (ps ++ qs))[0]? = some n0 := by
        have l0 : 0 < (namesP (ps ++ qs)).length := by unfold namesP; rw [List.length_map, List.length_append]; omega
        exact ⟨_, List.getElem?_eq_getElem l0⟩
      have n0lo : Lo 8 n0 := by
        obtain ⟨p, hp, rfl⟩ := List.mem_map.mp (List.mem_of_getElem? hn0)
        exact lo_name (okA p hp).1
      have nmOk : ∀ z ∈ namesP (ps ++ qs), nameL (cps z) = true := fun z hz => by
        obtain ⟨p, hp, rfl⟩ := List.mem_map.mp hz
        exact (okA p hp).1
      have n0s : n0 ++ (" " : Str) ∉ namesP (ps ++ qs) := fun m => by
        have h1 := nmOk _ m
        unfold nameL at h1
        simp only [Bool.and_eq_true] at h1
        have h2 := List.all_eq_true.mp h1.1.2 32 (by
          show 32 ∈ (n0.cps ++ (" " : Str).cps).toList
          rw [Array.toList_append]
          exact List.mem_append_right _ (by decide +kernel))
        revert h2
        decide
      have n0l : (n0 ++ (" " : Str)).length ≤ 9 := by
        have := n0lo.len
        rw [Str.length_append]
        show n0.length + 1 ≤ 9
        omega
      have n0t : TOk (n0 ++ (" " : Str)) := by
        refine ⟨by omega, fun c hc => ?_⟩
        have hc : c ∈ (n0.cps ++ (" " : Str).cps).toList := hc
        rw [Array.toList_append] at hc
        rcases List.mem_append.mp hc with q | q
        · have := n0lo.cod c q
          omega
        · have : ∀ c ∈ (" " : Str).cps.toList, c < 128 := by decide +kernel
          have := this c q
          omega
      refine ⟨_, rfl, by show 1 ≤ sizeLine; decide, fun q1 hq1 => ?_⟩
      have f1 := same_upd (o := .tup [V.str "x"]) (Same.refl H11) hq1
      have i1 : (upd H11 q1 (.tup [V.str "x"])) q1 = _ := upd_same
      generalize upd H11 q1 (.tup [V.str "x"]) = H12 at f1 i1
      refine ⟨by show 1 ≤ sizeLine; decide, fun q2 hq2 nq2 => ?_⟩
      have f2 := same_upd (o := .lst [V.str "x"]) (Same.refl H12) hq2
      have i2 : (upd H12 q2 (.lst [V.str "x"])) q2 = _ := upd_same
      generalize upd H12 q2 (.lst [V.str "x"]) = H13 at f2 i2
      refine fun q3 hq3 => ?_
      have f3 := same_upd (o := .dK []) (Same.refl H13) hq3
      have i3 : (upd H13 q3 (.dK [])) q3 = _ := upd_same
      generalize upd H13 q3 (.dK []) = H14 at f3 i3
      have f14 := (f1.trans f2).trans f3
      have e24 := e20.trans f14
      refine ⟨_, rfl, r, _, 0, .ref t1, rfl, rfl, SqL.of (e24 _ _ hl), rfl, _, rfl, D, _, 0, .str n0, rfl, rfl, SqL.of (f14 _ _ gD11), atI_nat (j := 0) (by rw [List.getElem?_map, hn0]; rfl), n0, (" " : Str), rfl, rfl, ?_, ?_⟩
      · have := n0lo.len
        show n0.length + 1 ≤ sizeLine
        rw [sizeLine_eq]; omega
      refine ⟨by show 8 ≤ sizeLine; decide, fun q4 hq4 nq4 => ?_⟩
      have f4 := same_upd (o := .lst [V.non, .int 0, .ref q1, .ref q2, .ref q3, .bl true, .ref t1, .str (n0 ++ (" " : Str))]) (Same.refl H14) hq4
      have i4 : (upd H14 q4 (.lst [V.non, .int 0, .ref q1, .ref q2, .ref q3, .bl true, .ref t1, .str (n0 ++ (" " : Str))])) q4 = _ := upd_same
      generalize upd H14 q4 (.lst [V.non, .int 0, .ref q1, .ref q2, .ref q3, .bl true, .ref t1, .str (n0 ++ (" " : Str))]) = H15 at f4 i4
      generalize hL1 : (oddW.filter fun z => decide (z ∉ namesP (ps ++ qs))) = L1 at g11
      have lL1 : L1.length ≤ 8 := by rw [← hL1]; exact List.length_filter_le ..
      have L1n : ∀ z ∈ L1, z ∉ namesP (ps ++ qs) ∧ TOk z := fun z hz => by
        rw [← hL1] at hz
        obtain ⟨a, b⟩ := List.mem_filter.mp hz
        refine ⟨of_decide_eq_true b, ?_⟩
        have : ∀ z ∈ oddW, z.length ≤ 9000 ∧ ∀ c ∈ cps z, c < 128 := by decide +kernel
        obtain ⟨u1, u2⟩ := this z a
        exact ⟨u1, fun c hc => by have := u2 c hc; omega⟩
      refine ⟨D2, q4, _, _, rfl, rfl, f4 _ _ (f14 _ _ g11), i4, by rw [List.length_map, sizeLine_eq]; show L1.length + 8 ≤ _; omega, fun q5 hq5 => ?_⟩
      generalize hL2 : (L1.map V.str ++ [V.non, .int 0, .ref q1, .ref q2, .ref q3, .bl true, .ref t1, .str (n0 ++ (" " : Str))]) = L2
      have lL2 : L2.length ≤ 16 := by rw [← hL2, List.length_append, List.length_map]; show L1.length + 8 ≤ 16; omega
      have f5 := same_upd (o := .lst L2) (Same.refl H15) hq5
      have i5 : (upd H15 q5 (.lst L2)) q5 = _ := upd_same
      generalize upd H15 q5 (.lst L2) = H16 at f5 i5
      have f46 := f4.trans f5
      have e26 := e24.trans f46
      have L2d : ∀ v ∈ L2, ∃ d, Dx H16 v d ∧ inD (namesP (ps ++ qs)) d = false := fun v hv => by
        rw [← hL2] at hv
        rcases List.mem_append.mp hv with hv | hv
        · obtain ⟨z, hz, rfl⟩ := List.mem_map.mp hv
          obtain ⟨a, b⟩ := L1n z hz
          exact ⟨.str z, .str z b, decide_eq_false a⟩
        · have dX : ∀ H', Dx H' (.str "x") (.str "x") := fun H' => .str _ ⟨by decide +kernel, by decide +kernel⟩
          simp only [List.mem_cons, List.not_mem_nil, or_false] at hv
          rcases hv with rfl | rfl | rfl | rfl | rfl | rfl | rfl | rfl
          · exact ⟨_, .non, rfl⟩
          · exact ⟨_, .int 0 (by decide +kernel) (by decide +kernel), rfl⟩
          · exact ⟨_, .tup (f46 _ _ (f3 _ _ (f2 _ _ i1))) (.cons (dX _) .nil), rfl⟩
          · exact ⟨_, .lst (f46 _ _ (f3 _ _ i2)) nq2 (.cons (dX _) .nil), rfl⟩
          · exact ⟨_, .dct (f46 _ _ i3) .nil, rfl⟩
          · exact ⟨_, .bl true, rfl⟩
          · exact ⟨_, parts_dx0 (h1.le (Tle.of_same e26)) fine.o1, rfl⟩
          · exact ⟨_, .str _ n0t, decide_eq_false n0s⟩
      refine ⟨q5, rfl, ⟨_, SqL.of i5⟩, fun D3 hD3 => ?_⟩
      refine lc_list (K := K) (a := q5) (xs := L2) (fun i H17 => Same H16 H17 ∧ H17 D3 = some (.lst ((List.replicate i false).map V.bl))) ?_ ?_ ?_ ?_
      · exact ⟨same_upd (Same.refl _) hD3, upd_same⟩
      · rintro i H17 _ ⟨g, _⟩
        exact SqL.of (g _ _ i5)
      · rintro i y H17 hy ⟨g, g1⟩
        obtain ⟨d, dy, dn⟩ := L2d y (List.mem_of_getElem? hy)
        have hi : i < L2.length := (List.getElem?_eq_some_iff.mp hy).1
        obtain ⟨dz, _, _, _, _, sz, _⟩ := st.le (e26.trans g)
        refine ⟨rfl, _, rfl, _, rfl, x, dz, _, rfl, sz, x, y, d, ps, qs, rfl, st.le (e26.trans g), dy.le g, fun H18 e18 => ⟨_, rfl, ?_⟩⟩
        rw [dn, show (if false = true then !false else false) = false from rfl]
        refine ⟨_, e18 _ _ g1, ?_, same_mut (g.trans e18) hD3, ?_⟩
        · rw [List.length_map, List.length_replicate, sizeLine_eq]; omega
        · rw [upd_same, List.replicate_succ', List.map_append]; rfl
      rintro H17 ⟨g, g1⟩
      have lR : ((List.replicate L2.length false).map V.bl).length = L2.length := by rw [List.length_map, List.length_replicate]
      refine ⟨_, rfl, by show 1 ≤ sizeLine; decide, fun p6 hp6 np6 => ?_⟩
      have r1 := same_upd (o := .lst [V.bl false]) (Same.refl H17) hp6
      have j1 : (upd H17 p6 (.lst [V.bl false])) p6 = _ := upd_same
      generalize upd H17 p6 (.lst [V.bl false]) = H18 at r1 j1
      refine ⟨_, rfl, _, _, rfl, Of3.lst (r1 _ _ g1), p6, _, _, rfl, rfl, j1, by rw [lR]; omega, by rw [lR]; omega, by rw [lR, sizeLine_eq]; show 1 * _ ≤ _; omega, fun p7 hp7 => ?_⟩
      rw [lR, Int.toNat_natCast, rep_flat]
      have r2 := same_upd (o := .lst ((List.replicate L2.length false).map V.bl)) (Same.refl H18) hp7
      have j2 : (upd H18 p7 (.lst ((List.replicate L2.length false).map V.bl))) p7 = _ := upd_same
      generalize upd H18 p7 (.lst ((List.replicate L2.length false).map V.bl)) = H19 at r2 j2
      refine ⟨D3, p7, _, _, rfl, rfl, r2 _ _ (r1 _ _ g1), j2, _, rfl, ?_⟩
      rw [decide_eq_true rfl]
      refine iteT ?_
      have e29 := ((e26.trans g).trans r1).trans r2
      refine ⟨_, rfl, _, rfl, r, _, 0, .ref t1, rfl, rfl, SqL.of (e29 _ _ hl), rfl, _, rfl, r, _, 1, .ref t2, rfl, rfl, SqL.of (e29 _ _ hl), rfl, ?_⟩
      refine mk_get2 (h1.le (Tle.of_same e29)) (h2.le (Tle.of_same e29)) fine fun z H20 e20' hz stz => ?_
      obtain ⟨dz, _, _, _, _, sz, _⟩ := id stz
      have e30 := e29.trans e20'
      obtain ⟨dw, _, _, _, _, sw, _⟩ := st.le e30
      refine ⟨x, dw, _, .ref C, rfl, sw, .inl ⟨z, dz, _, rfl, sz, rfl⟩, Z.nf, x, ps, qs, st.le e30, fine, .inl ⟨z, ps, qs, rfl, stz, fine, _, rfl, ?_⟩⟩
      rw [decide_eq_true (⟨rfl, rfl⟩ : ps = ps ∧ qs = qs)]
      refine iteT ?_
      refine ⟨_, rfl, _, rfl, x, dw, x, dw, _, _, rfl, rfl, sw, sw, x, ps, qs, st.le e30, fine, .inl ⟨x, ps, qs, rfl, st.le e30, fine, _, rfl, _, rfl, ?_⟩⟩
      rw [decide_eq_true (⟨rfl, rfl⟩ : ps = ps ∧ qs = qs)]
      exact k H20 e30
end
end Fs
namespace Fs
open PySem PySem.Spec PyProof.Rows L2 SlX RZ StX
/-! ### records compared; one deed of the three -/
def rEqRec : R2 := fun x y H Q => ∃ (a b : Addr) (ps qs : Parts), x = .ref a ∧ y = .ref b ∧ RecAt H a ps qs ∧ okP ps ∧ okP qs ∧ ps.length ≤ 3 ∧ qs.length ≤ 3 ∧
  ((∃ ps2 qs2 : Parts, RecAt H b ps2 qs2 ∧ okP ps2 ∧ okP qs2 ∧ ps2.length ≤ 3 ∧ qs2.length ≤ 3 ∧ Q (.bl (decide (ps = ps2 ∧ qs = qs2))) H) ∨ (H b = some (.lst []) ∧ Q (.bl false) H))
theorem rec_reads {X : Cx} {pins : List (Addr × Obj)} {σ : L2.St} {H : Hp} {s : Shared} {a : Addr} {ps qs : Parts} (I : Inv X pins σ H s) (h : RecAt H a ps qs) (o1 : okP ps) (o2 : okP qs) : ∃ as, Reads s.heap (.ref a) (.list [dParts ps, dParts qs]) as := by
  obtain ⟨t1, t2, e, h1, h2⟩ := h
  obtain ⟨_, its, n, rv, e'⟩ := I.hok _ _ e
  obtain ⟨as, r, _⟩ := Dx.readsAll I [dParts ps, dParts qs] _ its (.cons (parts_dx0 h1 o1) (.cons (parts_dx0 h2 o2) .nil)) rv
  exact ⟨_, Reads.list e' rfl rfl (by simpa using r)⟩
theorem rec_shaped {ps qs : Parts} (o1 : okP ps) (o2 : okP qs) : SeqAt.shaped (.list [dParts ps, dParts qs]) = true := by
  unfold SeqAt.shaped
  have h1 := can_parts _ (okP_part o1)
  have h2 := can_parts _ (okP_part o2)
  have d1 := (fit_parts _ (okP_part o1)).tup.de
  have d2 := (fit_parts _ (okP_part o2)).tup.de
  have d1 : (dParts ps).depth ≤ 2 := d1
  have d2 : (dParts qs).depth ≤ 2 := d2
  have e : (PyData.list [dParts ps, dParts qs]).depth ≤ 3 := by simp only [PyData.depth, PyData.depthAll]; omega
  rw [decide_eq_true (by omega), Bool.and_true]
  unfold dParts
  simp only [PyData.canLay0, PyData.canLayAll0, h1, h2, Bool.and_self]
theorem op_eqRec {X : Cx} (hu : X.A.units + 64 < cLine) : OpR X (compareOp .Eq) rEqRec := by
  intro pins s σ H x y v u Q I rx ry h
  obtain ⟨a, b, ps, qs, rfl, rfl, ra, o1, o2, _, _, h⟩ := h
  cases rx
  cases ry
  obtain ⟨as, r1⟩ := rec_reads I ra o1 o2
  rcases h with ⟨ps2, qs2, rb, b1, b2, _, _, q⟩ | ⟨hb, q⟩
  · obtain ⟨bs, r2⟩ := rec_reads I rb b1 b2
    refine SeqAt.compareEq_shaped r1 r2 (rec_shaped o1 o2) (rec_shaped b1 b2) hu ⟨.bl _, H, I, rfl, ?_⟩
    have : PyData.eqv (.list [dParts ps, dParts qs]) (.list [dParts ps2, dParts qs2]) = decide (ps = ps2 ∧ qs = qs2) := by
      simp only [PyData.eqv, PyData.eqvAll, eqv_parts, Bool.and_true, Bool.decide_and]
    rw [this]
    exact q
  · obtain ⟨_, jts, m, rw', e'⟩ := I.hok _ _ hb
    cases rw'
    refine SeqAt.compareEq_shaped r1 (Reads.list e' rfl rfl (by simpa using ReadsAll.nil) : Reads _ _ (.list []) _) (rec_shaped o1 o2) (bools_shaped []) hu ⟨.bl _, H, I, rfl, ?_⟩
    have : PyData.eqv (.list [dParts ps, dParts qs]) (.list []) = false := by
      simp only [PyData.eqv, PyData.eqvAll]
    rw [this]
    exact q
/-- streams and their record, none of it the pot -/
structure Both (a : Addr) (H : Hp) (C x r : Addr) (ps qs : Parts) : Prop where
  st : StAt (hid a H) x C ps qs
  rc : RecAt (hid a H) r ps qs
  fine : Fine ps qs
theorem Both.le {a : Addr} {H H' : Hp} {C x r : Addr} {ps qs : Parts} (s : Stp a H H') (b : Both a H C x r ps qs) : Both a H' C x r ps qs := ⟨b.st.le s.same, b.rc.le s.same, b.fine⟩
/-- a deed: new streams with their record; none, where n -/
def spMove (C : Addr) (n : Bool) : Sp := fun vs H Q _ => ∃ (a x r : Addr) (ps qs : Parts), vs = [.ref a, .ref x, .ref r] ∧ Pot H a ∧ Both a H C x r ps qs ∧
  (∀ (l z r' : Addr) (ps' qs' : Parts) (H' : Hp), Stp a H H' → hid a H' l = some (.lst [.ref z, .ref r']) → Both a H' C z r' ps' qs' → Q (.ref l) H') ∧ (n = true → ∀ H', Stp a H H' → Q .non H')
section
variable {P : Program} {w : World} {K : PySem.W.Frag} {mg : Str → Option Value} {base : Heap} {C : Addr}
def qIsN : R2 := fun x y H Q => y = .non ∧ Q (.bl (decide (x = .non))) H
abbrev s_deed : Stmt := top 40
theorem sc_deed : FnScope ["pot", "streams", "record", "way", "found"] ["pot", "streams", "record"] (defScope s_deed) := ⟨rfl, rfl, rfl, by decide +kernel, rfl, by decide +kernel, by decide +kernel⟩
theorem cal_deed (D : Df K mg "_law_deed" s_deed ["pot", "streams", "record"]) (C_dip : Cal P w K mg base 1 "_law_dip" spDip) (C_renamed : Cal P w K mg base 8 "_law_renamed" (spMove C false)) (C_less : Cal P w K mg base 8 "_law_less" (spMove C true)) (C_more : Cal P w K mg base 8 "_law_more" (spMove C true)) :
    Cal P w K mg base 9 "_law_deed" (spMove C false) := by
  refine D.cal sc_deed (fun vs H Q E h => ?_) (fun f cdv A outer s H vs Q E hr h => ?_)
  · obtain ⟨a, x, r, ps, qs, rfl, _⟩ := h
    rfl
  · obtain ⟨a, x, r, ps, qs, rfl, hp, b, k, _⟩ := h
    refine ⟨_, pss_cons (ps_set (i := 3) sc_deed.nd rfl (.inl rfl) (pc C_dip hr (pa_cons (pv 0) (pa_cons pe_int pa_nil))))
      (pss_cons (ps_if (pt_cmpR op_lt (pv 3) pe_int (nomark _))
        (pss_one (ps_ret (pc C_renamed hr (pa_cons (pv 0) (pa_cons (pv 1) (pa_cons (pv 2) pa_nil))))))
        pss_nil)
      (pss_cons (ps_set (i := 4) sc_deed.nd rfl (.inl rfl) (pe_ifExp (pt_cmpR op_lt (pv 3) pe_int (nomark _)) (pc C_less hr (pa_cons (pv 0) (pa_cons (pv 1) (pa_cons (pv 2) pa_nil)))) (pc C_more hr (pa_cons (pv 0) (pa_cons (pv 1) (pa_cons (pv 2) pa_nil))))))
      (pss_one (ps_ret (pe_ifExp (pt_cmpR op_isN (pv 4) pe_non (nomark _)) (pe_lstN (pa_cons (pv 1) (pa_cons (pv 2) pa_nil))) (pv 4)))))), ?_⟩
    refine ⟨_, rfl, a, 6, rfl, hp, by decide, by decide, fun d H1 d0 d1 s1 => ?_⟩
    have b1 := b.le s1
    have lst : ∀ (H2 : Hp), Stp a H H2 → ∀ p, H2 p = none → Q (.ref p) (upd H2 p (.lst [.ref x, .ref r])) := fun H2 s2 p hp2 => by
      obtain ⟨u, e, na, _⟩ := nw (o := .lst [V.ref x, .ref r]) s2.pot hp2
      exact k p x r ps qs _ (s2.trans u) ((hid_ne na).trans e) (b.le (s2.trans u))
    refine ⟨_, rfl, _, _, rfl, rfl, _, rfl, ?_⟩
    refine ite2 (fun _ => ?_) (fun _ => ?_)
    · exact ⟨_, rfl, _, rfl, _, rfl, a, x, r, ps, qs, rfl, s1.pot, b1, fun l z r' ps' qs' H' s2 hl b2 => k l z r' ps' qs' H' (s1.trans s2) hl b2, fun h => nomatch h⟩
    · refine ⟨_, rfl, _, _, rfl, rfl, _, rfl, ?_⟩
      have fin1 : ∀ (l z r' : Addr) (ps' qs' : Parts) (H' : Hp), Stp a H1 H' → hid a H' l = some (.lst [.ref z, .ref r']) → Both a H' C z r' ps' qs' → Q (.ref l) H' := fun l z r' ps' qs' H' s2 hl b2 => k l z r' ps' qs' H' (s1.trans s2) hl b2
      have nn : ∀ l : Addr, decide (V.ref l = V.non) = false := fun l => decide_eq_false (fun q => by cases q)
      refine ite2 (fun _ => ?_) (fun _ => ?_)
      · refine ⟨_, rfl, _, rfl, _, rfl, a, x, r, ps, qs, rfl, s1.pot, b1, fun l z r' ps' qs' H' s2 hl b2 => ?_, fun _ H' s2 => ?_⟩
        · refine ⟨_, rfl, rfl, _, rfl, ?_⟩
          rw [nn]
          exact iteF ⟨_, rfl, fin1 l z r' ps' qs' H' s2 hl b2⟩
        · refine ⟨_, rfl, rfl, _, rfl, ?_⟩
          rw [decide_eq_true rfl]
          exact iteT ⟨_, rfl, _, rfl, by show 2 ≤ sizeLine; decide, fun p hp2 _ => lst H' (s1.trans s2) p hp2⟩
      · refine ⟨_, rfl, _, rfl, _, rfl, a, x, r, ps, qs, rfl, s1.pot, b1, fun l z r' ps' qs' H' s2 hl b2 => ?_, fun _ H' s2 => ?_⟩
        · refine ⟨_, rfl, rfl, _, rfl, ?_⟩
          rw [nn]
          exact iteF ⟨_, rfl, fin1 l z r' ps' qs' H' s2 hl b2⟩
        · refine ⟨_, rfl, rfl, _, rfl, ?_⟩
          rw [decide_eq_true rfl]
          exact iteT ⟨_, rfl, _, rfl, by show 2 ≤ sizeLine; decide, fun p hp2 _ => lst H' (s1.trans s2) p hp2⟩
end
end Fs
namespace Fs
open PySem PySem.Spec PyProof.Rows L2 SlX RZ StX
/-! ### the law's _law_right, from its parts -/
theorem hid_upd {a b : Addr} {H : Hp} {o : HO} (h : b ≠ a) : hid a (upd H b o) = upd (hid a H) b o := by
  funext c
  by_cases e : c = a
  · subst e
    rw [upd_ne (Ne.symm h)]
    unfold hid
    rw [if_pos rfl, if_pos rfl]
  · rw [hid_ne e]
    by_cases e2 : c = b
    · subst e2
      rw [upd_same, upd_same]
    · rw [upd_ne e2, upd_ne e2, hid_ne e]
/-- what is no list stands where a list is written -/
theorem keep_nl {H : Hp} {el b : Addr} {l l' : List V} {o : HO} (he : H el = some (.lst l)) (ho : ∀ m, o ≠ .lst m) (hb : H b = some o) : (upd H el (.lst l')) b = some o := by
  rw [upd_ne (fun e => by subst e; rw [he] at hb; exact ho l (Option.some.inj hb).symm)]
  exact hb
theorem pairs_nl {H : Hp} {el : Addr} {l l' : List V} (he : H el = some (.lst l)) {as : List Addr} {ps : Parts} (h : Paired (PairAt H) as ps) : Paired (PairAt (upd H el (.lst l'))) as ps :=
  L2.Paired.mapP h fun _ _ q => keep_nl he (fun m e => by cases e) q
theorem parts_nl {H : Hp} {el t : Addr} {l l' : List V} {ps : Parts} (he : H el = some (.lst l)) (h : PartsT H t ps) : PartsT (upd H el (.lst l')) t ps := by
  obtain ⟨as, e, p⟩ := h
  exact ⟨as, keep_nl he (fun m e => by cases e) e, pairs_nl he p⟩
theorem slt_nl {H : Hp} {el x C dx : Addr} {l l' : List V} {vs : List (Option V)} (he : H el = some (.lst l)) (h : Slt H x C dx vs) : Slt (upd H el (.lst l')) x C dx vs := by
  rcases h with ⟨h1, h2⟩ | ⟨h1, h2⟩
  · exact .inl ⟨keep_nl he (fun m e => by cases e) h1, h2⟩
  · exact .inr ⟨keep_nl he (fun m e => by cases e) h1, keep_nl he (fun m e => by cases e) h2⟩
theorem st_nl {H : Hp} {el x C : Addr} {l l' : List V} {ps qs : Parts} (he : H el = some (.lst l)) (h : StAt H x C ps qs) : StAt (upd H el (.lst l')) x C ps qs := by
  obtain ⟨dx, t1, t2, t3, t4, a, b, c, ⟨ob, hd, d⟩, f⟩ := h
  exact ⟨dx, t1, t2, t3, t4, slt_nl he a, parts_nl he b, parts_nl he c, ⟨ob, hd, keep_nl he (fun m e => by cases e) d⟩, keep_nl he (fun m e => by cases e) f⟩
theorem rec_nl {H : Hp} {el r : Addr} {es : List Addr} {l' : List V} {ps qs : Parts} (he : H el = some (.lst (es.map V.ref))) (hes : ∀ e ∈ es, ∃ m, H e = some (.lst m)) (h : RecAt H r ps qs) : RecAt (upd H el (.lst l')) r ps qs := by
  obtain ⟨t1, t2, a, b, c⟩ := h
  refine ⟨t1, t2, ?_, parts_nl he b, parts_nl he c⟩
  rw [upd_ne (fun e => ?_)]
  · exact a
  · subst e
    rw [he] at a
    injection a with a
    injection a with a
    match es, a with
    | e1 :: _, a =>
      rw [List.map_cons] at a
      injection a with a1 _
      injection a1 with a1
      subst a1
      obtain ⟨m, hm⟩ := hes e1 (List.mem_cons_self ..)
      obtain ⟨as, hb, _⟩ := b
      rw [hm] at hb
      cases hb
/-- an elder: a list of streams and their record -/
def Eld (a : Addr) (H : Hp) (C : Addr) (e : Addr) : Prop := ∃ (z r : Addr) (ps qs : Parts), hid a H e = some (.lst [.ref z, .ref r]) ∧ Both a H C z r ps qs
theorem Eld.le {a : Addr} {H H' : Hp} {C e : Addr} (s : Stp a H H') (h : Eld a H C e) : Eld a H' C e := by
  obtain ⟨z, r, ps, qs, h1, h2⟩ := h
  exact ⟨z, r, ps, qs, s.same _ _ h1, h2.le s⟩
theorem slt_nol {H : Hp} {z C dx : Addr} {vs : List (Option V)} (h : Slt H z C dx vs) : ∃ o, H z = some o ∧ ∀ m, o ≠ .lst m := by
  rcases h with ⟨h1, h2⟩ | ⟨h1, h2⟩
  · exact ⟨_, h1, fun m e => by cases e⟩
  · exact ⟨_, h1, fun m e => by cases e⟩
theorem Eld.isl {a : Addr} {H : Hp} {C e : Addr} (h : Eld a H C e) : ∃ m, hid a H e = some (.lst m) := by
  obtain ⟨z, r, ps, qs, h1, h2⟩ := h
  exact ⟨_, h1⟩
theorem both_nl {a el C x r : Addr} {H : Hp} {es : List Addr} {l' : List V} {ps qs : Parts} (na : el ≠ a) (he : hid a H el = some (.lst (es.map V.ref))) (hes : ∀ e ∈ es, Eld a H C e) (b : Both a H C x r ps qs) : Both a (upd H el (.lst l')) C x r ps qs := by
  refine ⟨?_, ?_, b.fine⟩
  · rw [hid_upd na]; exact st_nl he b.st
  · rw [hid_upd na]; exact rec_nl he (fun e h => (hes e h).isl) b.rc
theorem eld_nl {a el C e : Addr} {H : Hp} {es : List Addr} {l' : List V} (na : el ≠ a) (he : hid a H el = some (.lst (es.map V.ref))) (hes : ∀ e ∈ es, Eld a H C e) (h : Eld a H C e) : Eld a (upd H el (.lst l')) C e := by
  obtain ⟨z, r, ps, qs, h1, h2⟩ := h
  refine ⟨z, r, ps, qs, ?_, both_nl na he hes h2⟩
  rw [hid_upd na, upd_ne (fun q => ?_)]
  · exact h1
  · subst q
    rw [he] at h1
    injection h1 with h1
    injection h1 with h1
    match es, h1 with
    | e1 :: _, h1 =>
      rw [List.map_cons] at h1
      injection h1 with a1 _
      injection a1 with a1
      subst a1
      obtain ⟨m, hm⟩ := (hes e1 (List.mem_cons_self ..)).isl
      obtain ⟨dx, _, _, _, _, sl, _⟩ := h2.st
      obtain ⟨o, ho, hn⟩ := slt_nol sl
      rw [hm] at ho
      injection ho with ho
      exact hn m ho.symm
section
variable {P : Program} {w : World} {K : PySem.W.Frag} {mg : Str → Option Value} {base : Heap} {C SO : Addr}
def spOk : Sp := fun vs H Q _ => ∃ a : Addr, vs = [.ref a] ∧ Pot H a ∧ ∀ H', Stp a H H' → Q (.bl true) H'
theorem keep_hid {H : Hp} {a b : Addr} {o : HO} (hp : Pot H a) (ho : ∀ m, o ≠ .lst m) (hb : H b = some o) : hid a H b = some o := by
  rw [hid_ne (fun e => by
    subst e
    obtain ⟨_, _, _, e, _⟩ := hp.ex
    rw [e] at hb
    exact ho _ (Option.some.inj hb).symm)]
  exact hb
theorem parts_hid {H : Hp} {a t : Addr} {ps : Parts} (hp : Pot H a) (h : PartsT H t ps) : PartsT (hid a H) t ps := by
  obtain ⟨as, e, p⟩ := h
  exact ⟨as, keep_hid hp (fun m e => by cases e) e, L2.Paired.mapP p fun _ _ q => keep_hid hp (fun m e => by cases e) q⟩
theorem st_hid {H : Hp} {a x C : Addr} {ps qs : Parts} (hp : Pot H a) (h : StAt H x C ps qs) : StAt (hid a H) x C ps qs := by
  obtain ⟨dx, t1, t2, t3, t4, s, b, c, ⟨ob, hd, d⟩, f⟩ := h
  refine ⟨dx, t1, t2, t3, t4, ?_, parts_hid hp b, parts_hid hp c, ⟨ob, hd, keep_hid hp (fun m e => by cases e) d⟩, keep_hid hp (fun m e => by cases e) f⟩
  rcases s with ⟨h1, h2⟩ | ⟨h1, h2⟩
  · exact .inl ⟨keep_hid hp (fun m e => by cases e) h1, h2⟩
  · exact .inr ⟨keep_hid hp (fun m e => by cases e) h1, keep_hid hp (fun m e => by cases e) h2⟩
theorem Both.at {a : Addr} {H : Hp} {C x r : Addr} {ps qs : Parts} (b : Both a H C x r ps qs) : StAt H x C ps qs ∧ RecAt H r ps qs := ⟨b.st.le (hid_le a H), b.rc.le (hid_le a H)⟩
def spWR (C : Addr) : Sp := fun vs H Q _ => ∃ (a x r : Addr) (ps qs : Parts), vs = [.ref a, .ref x, .ref r] ∧ Pot H a ∧ Both a H C x r ps qs ∧ ∀ H', Stp a H H' → Q (.bl true) H'
abbrev s_right : Stmt := top 41
theorem sc_right : FnScope ["pot", "record", "streams", "elder", "turn", "one", "part"] ["pot"] (defScope s_right) := ⟨rfl, rfl, rfl, by decide +kernel, rfl, by decide +kernel, by decide +kernel⟩
theorem cal_right {fI : Addr} {fdI : FuncData} (T : Bs mg) (Z : Sx K mg C SO) (D : Df K mg "_law_right" s_right ["pot"]) (C_dip : Cal P w K mg base 1 "_law_dip" spDip) (C_parts : Cal P w K mg base 5 "_law_parts" spParts) (C_deed : Cal P w K mg base 9 "_law_deed" (spMove C false)) (C_is_told : Cal P w K mg base 7 "_law_is_told" (spToldL C))
    (C_words_right : Cal P w K mg base 9 "_law_words_right" (spWR C)) (M_eq : Mth P w K mg base CX0 C "__eq__" 1 (spEq K C)) (MK : L2.Mk K C fI) (C_init : FnG P w K mg base CX0 5 fI fdI ["self", "sources", "sinks"] (spInit C)) (BI : Binds K fdI ["self", "sources", "sinks"] []) :
    Cal P w K mg base 10 "_law_right" spOk := by
  refine D.cal sc_right (fun vs H Q E h => ?_) (fun f cdv A outer s H vs Q E hr h => ?_)
  · obtain ⟨a, rfl, _⟩ := h
    rfl
  · obtain ⟨a, rfl, hp, k⟩ := h
    refine ⟨_, pss_cons (ps_set (i := 1) sc_right.nd rfl (.inl rfl) (pc C_parts hr (pa_cons (pv 0) (pa_cons pe_int pa_nil))))
      (pss_cons (ps_par (i := 2) (j := 3) rfl sc_right.nd rfl rfl (by decide) rfl rfl (pa_cons (pe_makeG (E := fun _ => E0) MK C_init hr Z.gC BI (fun _ => passAt0) (pa_cons (pe_ix ix_list (pv 1) pe_int (fun _ _ => rfl)) (pa_cons (pe_ix ix_list (pv 1) pe_int (fun _ _ => rfl)) pa_nil))) (pa_cons (pe_lstN pa_nil) pa_nil)) (by rfl))
      (pss_cons (ps_for PassesOwn.never rfl (pi_range1 (by rfl) T.z_range (pa_cons (pe_op op_add pe_int (pc C_dip hr (pa_cons (pv 0) (pa_cons pe_int pa_nil)))) pa_nil)) (pg_name (i := 4) sc_right.nd rfl (Or.inl rfl))
        (pss_cons (ps_expr (pe_bm PySem.F.plainAttrs_list PySem.F.slot_list_append PySem.F.type_list_append mt_append (pv 3) (pa_cons (pe_lstN (pa_cons (pv 2) (pa_cons (pe_lstN (pa_cons (pe_ix ix_list (pv 1) pe_int (fun _ _ => rfl)) (pa_cons (pe_ix ix_list (pv 1) pe_int (fun _ _ => rfl)) pa_nil))) pa_nil))) pa_nil)))
        (pss_cons (ps_asg (pc C_deed hr (pa_cons (pv 0) (pa_cons (pv 2) (pa_cons (pv 1) pa_nil)))) (pg_lst rfl (pgs_cons (pg_name (i := 2) sc_right.nd rfl (Or.inl rfl)) (pgs_cons (pg_name (i := 1) sc_right.nd rfl (Or.inl rfl)) pgs_nil))))
        (pss_one (ps_if (PW.pt (pw_or (pt_cmpR (op_eqRec hr.rm.units) (pv 1) (pe_lstN pa_nil) (nomark _)) (pw_or (pt_not (pt_val (pc C_is_told hr (pa_cons (pv 2) (pa_cons (pv 1) pa_nil))))) (pw_or1 (pt_not (pt_val (pc C_words_right hr (pa_cons (pv 0) (pa_cons (pv 2) (pa_cons (pv 1) pa_nil))))))))))
          (pss_one (ps_ret pe_bl))
          pss_nil)))))
      (pss_cons (ps_for PassesOwn.never rfl (pi_list (pv 3)) (pg_lst rfl (pgs_cons (pg_name (i := 5) sc_right.nd rfl (Or.inl rfl)) (pgs_cons (pg_name (i := 6) sc_right.nd rfl (Or.inl rfl)) pgs_nil)))
        (pss_one (ps_if (PW.pt (pw_or (pt_not (pt_val (pc C_is_told hr (pa_cons (pv 5) (pa_cons (pv 6) pa_nil))))) (pw_or (pt_cmpR op_ne (pe_cmpR (op_eqM M_eq hr) (pv 5) (pv 2) (nomark _)) (pe_cmpR (op_eqRec hr.rm.units) (pv 6) (pv 1) (nomark _)) (nomark _)) (pw_or1 (pt_cmpR (op_eqM M_eq hr) (pv 5) (pv 6) (nomark _))))))
          (pss_one (ps_ret pe_bl))
          pss_nil)))
      (pss_one (ps_ret pe_bl))))), ?_⟩
    refine ⟨_, rfl, a, 3, rfl, hp, by decide, by decide, fun r t1 t2 ps qs H1 g hr0 hl1 h1 h2 s1 => ?_⟩
    have fine := g.fine (Nat.le_refl 3)
    have ra : r ≠ a := hp.ne hr0
    refine ⟨_, rfl, r, _, 0, .ref t1, rfl, rfl, SqL.of hl1, rfl, _, rfl, r, _, 1, .ref t2, rfl, rfl, SqL.of hl1, rfl, ?_⟩
    refine mk_get2 h1 h2 fine fun z H2 e2 hz stz => ?_
    have s2 := s1.trans (Stp.of_same s1.pot e2)
    have b2 : Both a H2 C z r ps qs := ⟨st_hid s2.pot stz, ⟨t1, t2, (hid_ne ra).trans (e2 _ _ hl1), parts_hid s2.pot (h1.le (Tle.of_same e2)), parts_hid s2.pot (h2.le (Tle.of_same e2))⟩, fine⟩
    refine ⟨by show 0 ≤ sizeLine; decide, fun el hel nel => ⟨_, _, rfl, ?_⟩⟩
    obtain ⟨u3, k3, na, _⟩ := nw (o := .lst []) s2.pot hel
    have s3 := s2.trans u3
    have b3 := b2.le u3
    generalize upd H2 el (.lst []) = H3 at u3 k3 s3 b3
    refine ⟨_, rfl, a, 5, rfl, s3.pot, by decide, by decide, fun d H4 d0 d1 s4 => ?_⟩
    refine ⟨_, _, rfl, rfl, _, rfl, by omega, by omega, for_range (fun i σ H5 => ∃ (x rr : Addr) (qa qb : Parts) (es : List Addr) (v4 v5 v6 : Option V), σ = [some (.ref a), some (.ref rr), some (.ref x), some (.ref el), v4, v5, v6] ∧ Stp a H H5 ∧ Both a H5 C x rr qa qb ∧ es.length = i ∧ hid a H5 el = some (.lst (es.map V.ref)) ∧ ∀ e ∈ es, Eld a H5 C e) ?_ ?_ ?_⟩
    · exact ⟨z, r, ps, qs, [], _, _, _, rfl, s3.trans s4, b3.le s4, rfl, s4.same _ _ ((hid_ne na).trans k3), fun e h => nomatch h⟩
    · rintro i σ H5 hi ⟨x, rr, qa, qb, es, v4, v5, v6, rfl, s5, b5, les, hes, elds⟩
      obtain ⟨u1, u2, f1, f2, f3⟩ := b5.rc
      have hl5 := (hid_le a H5) _ _ f1
      have he5 := (hid_le a H5) _ _ hes
      refine ⟨_, rfl, .inl ⟨rfl, _, SqL.of he5⟩, _, rfl, _, rfl, rr, _, 0, .ref u1, rfl, rfl, SqL.of hl5, rfl, _, rfl, rr, _, 1, .ref u2, rfl, rfl, SqL.of hl5, rfl, ?_⟩
      refine ⟨by show 2 ≤ sizeLine; decide, fun c1 hc1 nc1 => ?_⟩
      obtain ⟨w6, k6, na6, m6⟩ := nw (o := .lst [V.ref u1, .ref u2]) s5.pot hc1
      generalize upd H5 c1 (.lst [V.ref u1, .ref u2]) = H6 at w6 k6 m6
      refine ⟨by show 2 ≤ sizeLine; decide, fun c2 hc2 nc2 => ?_⟩
      obtain ⟨w7, k7, na7, m7⟩ := nw (o := .lst [V.ref x, .ref c1]) w6.pot hc2
      generalize upd H6 c2 (.lst [V.ref x, .ref c1]) = H7 at w7 k7 m7
      have w57 := w6.trans w7
      have e7 : hid a H7 el = some (.lst (es.map V.ref)) := w57.same _ _ hes
      have b7 := b5.le w57
      have n7 : Eld a H7 C c2 := ⟨x, c1, qa, qb, (hid_ne na7).trans k7, b7.st, ⟨u1, u2, (hid_ne na6).trans (m7 _ _ k6), f2.le (Tle.of_same w57.same), f3.le (Tle.of_same w57.same)⟩, b7.fine⟩
      have elds7 : ∀ e ∈ es, Eld a H7 C e := fun e he => (elds e he).le w57
      have hel0 : H el = none := s2.free hel na
      refine ⟨el, _, _, rfl, rfl, (hid_le a H7) _ _ e7, by rw [List.length_map, sizeLine_eq]; omega, ?_⟩
      have s8 : Stp a H (upd H7 el (.lst (es.map V.ref ++ [.ref c2]))) := (s5.trans w57).mut hel0 na
      have b8 : Both a (upd H7 el (.lst (es.map V.ref ++ [.ref c2]))) C x rr qa qb := both_nl na e7 elds7 b7
      have e8 : hid a (upd H7 el (.lst (es.map V.ref ++ [.ref c2]))) el = some (.lst ((es ++ [c2]).map V.ref)) := by
        rw [hid_ne na, upd_same, List.map_append]; rfl
      have elds8 : ∀ e ∈ es ++ [c2], Eld a (upd H7 el (.lst (es.map V.ref ++ [.ref c2]))) C e := fun e he => by
        rcases List.mem_append.mp he with h | h
        · exact eld_nl na e7 elds7 (elds7 e h)
        · rw [List.mem_singleton.mp h]
          exact eld_nl na e7 elds7 n7
      generalize upd H7 el (.lst (es.map V.ref ++ [.ref c2])) = H8 at s8 b8 e8 elds8
      refine ⟨_, rfl, _, rfl, _, rfl, a, x, rr, qa, qb, rfl, s8.pot, b8, fun l z' r' ps' qs' H9 s9 hl9 b9 => ?_, fun h => nomatch h⟩
      refine ⟨l, _, rfl, SqL.of ((hid_le a H9) _ _ hl9), rfl, _, _, rfl, _, _, rfl, rfl, ?_⟩
      obtain ⟨l1, l3, m3, nd⟩ := b9.fine.out
      refine ⟨_, rfl, by show 0 ≤ sizeLine; decide, fun c3 hc3 nc3 => ?_⟩
      obtain ⟨w10, k10, na10, m10⟩ := nw (o := .lst []) s9.pot hc3
      generalize upd H9 c3 (.lst []) = H10 at w10 k10 m10
      have b10 := b9.le w10
      refine ⟨r', c3, ps', qs', rfl, rfl, b10.at.2, b10.fine.o1, b10.fine.o2, l3, m3, .inr ⟨k10, _, rfl, ?_⟩⟩
      refine iteF ?_
      refine ⟨_, rfl, _, rfl, z', r', ps', qs', rfl, b10.at.1, b10.at.2, b10.fine, fun H11 e11 => ⟨_, rfl, ?_⟩⟩
      have w11 := Stp.of_same w10.pot e11
      refine iteF ?_
      refine ⟨_, rfl, _, rfl, _, rfl, a, z', r', ps', qs', rfl, w11.pot, b10.le w11, fun H12 s12 => ⟨_, rfl, ?_⟩⟩
      refine iteF ?_
      have s812 := ((s9.trans w10).trans w11).trans s12
      exact ⟨z', r', ps', qs', es ++ [c2], _, _, _, rfl, s8.trans s812, (b10.le w11).le s12, by rw [List.length_append, les]; rfl, s812.same _ _ e8, fun e he => (elds8 e he).le s812⟩
    · rintro σ H5 ⟨x, rr, qa, qb, es, v4, v5, v6, rfl, s5, b5, les, hes, elds⟩
      have he5 := (hid_le a H5) _ _ hes
      refine ⟨_, rfl, el, rfl, ⟨_, SqL.of he5⟩, for_list (K := K) (a := el) (xs := es.map V.ref) (fun i σ H6 => ∃ v4 v5 v6 : Option V, σ = [some (.ref a), some (.ref rr), some (.ref x), some (.ref el), v4, v5, v6] ∧ Same H5 H6) ?_ ?_ ?_ ?_⟩
      · exact ⟨_, _, _, rfl, Same.refl H5⟩
      · rintro i σ H6 _ ⟨_, _, _, _, g⟩
        exact SqL.of (g _ _ he5)
      · rintro i y σ H6 hy ⟨v4, v5, v6, rfl, g⟩
        rw [List.getElem?_map] at hy
        obtain ⟨e, he, rfl⟩ := Option.map_eq_some_iff.mp hy
        obtain ⟨z2, r2, p2, q2, h21, h22⟩ := elds e (List.mem_of_getElem? he)
        obtain ⟨st2, rc2⟩ := h22.at
        obtain ⟨stx, rcx⟩ := b5.at
        obtain ⟨l1, l3, m3, nd⟩ := h22.fine.out
        obtain ⟨k1, k3', j3, nd'⟩ := b5.fine.out
        refine ⟨e, _, rfl, SqL.of (g _ _ ((hid_le a H5) _ _ h21)), rfl, _, _, rfl, _, _, rfl, rfl, ?_⟩
        refine ⟨_, rfl, _, rfl, z2, r2, p2, q2, rfl, st2.le g, rc2.le g, h22.fine, fun H7 e7 => ⟨_, rfl, ?_⟩⟩
        refine iteF ?_
        have g7 := g.trans e7
        have st27 := st2.le g7
        have stx7 := stx.le g7
        obtain ⟨dz, _, _, _, _, sz, _⟩ := id st27
        obtain ⟨dx, _, _, _, _, sx, _⟩ := id stx7
        refine ⟨_, rfl, _, rfl, z2, dz, _, .ref C, rfl, sz, .inl ⟨x, dx, _, rfl, sx, rfl⟩, Z.nf, z2, p2, q2, st27, h22.fine, .inl ⟨x, qa, qb, rfl, stx7, b5.fine, _, rfl, _, rfl, r2, rr, p2, q2, rfl, rfl, rc2.le g7, h22.fine.o1, h22.fine.o2, l3, m3, .inl ⟨qa, qb, rcx.le g7, b5.fine.o1, b5.fine.o2, k3', j3, rfl, _, rfl, ?_⟩⟩⟩
        rw [decide_eq_true (show V.bl (decide (p2 = qa ∧ q2 = qb)) = V.bl (decide (p2 = qa ∧ q2 = qb)) from rfl)]
        refine iteF ?_
        obtain ⟨w1, w2, hr2, _, _⟩ := rc2.le g7
        refine ⟨_, rfl, _, rfl, z2, dz, _, .type "list", rfl, sz, .inr (.base (.lst hr2)), Z.nl, z2, p2, q2, st27, h22.fine, .inr ⟨.ref r2, .type "list", rfl, .base (.lst hr2), Z.kl, _, rfl, ?_⟩⟩
        refine iteF ?_
        exact ⟨_, _, _, rfl, g7⟩
      · rintro σ H6 ⟨v4, v5, v6, rfl, g⟩
        exact k H6 (s5.trans (Stp.of_same s5.pot g))
end
end Fs
namespace Fs
open PySem PySem.Spec PyProof.Rows L2 SlX RZ StX
/-! ### other streams beside them -/
section
variable {P : Program} {w : World} {K : PySem.W.Frag} {mg : Str → Option Value} {base : Heap} {C SO : Addr}
/-- the names of two parts, a comprehension -/
theorem lc_names1112 {H : Hp} {t D : Addr} {σ : L2.St} {v0 v1 v2 v3 v4 v5 v6 v7 v8 v9 v10 : Option V} {ps : Parts} {Qd : Hp → Prop} (hσ : σ = [v0, v1, v2, v3, v4, v5, v6, v7, v8, v9, v10, none, none]) (ht : PartsT H t ps) (hps : ps.length ≤ 1000) (hD : H D = none)
    (q : ∀ H' : Hp, Same H H' → H' D = some (.lst ((namesP ps).map V.str)) → Qd H') :
    ∃ W : Nat → Nat → Hp → Prop, (∃ m, W 0 m (upd H D (.lst []))) ∧ ∀ i m H, W i m H →
      ((Itt K t).stop i H ∧ Qd H) ∨ ((Itt K t).go i H ∧ ∃ Nx : Hp → Prop, (∀ H', Nx H' → ∃ m', m' < m ∧ W (i + 1) m' H') ∧ ∀ x H', (Itt K t).yld i H x H' → gTup K 2 (gCons (gName 11) (gCons (gName 12) gNil)) x (wipe σ [11, 12]) H' fun σ2 H2 => wipe σ2 [11, 12] = wipe σ [11, 12] ∧ tYes σ2 H2 fun b H3 =>
        if b = true then tVar 11 σ2 H3 fun y H4 => ∃ acc, H4 D = some (.lst acc) ∧ acc.length < sizeLine ∧ Nx (upd H4 D (.lst (acc ++ [y]))) else Nx H3) := by
  subst hσ
  obtain ⟨as, et, pr⟩ := ht
  have lp := paired_len pr
  have ln : (namesP ps).length = ps.length := List.length_map ..
  refine lc_tup (K := K) (a := t) (xs := as.map V.ref) (g := gTup K 2 (gCons (gName 11) (gCons (gName 12) gNil))) (tt := tYes) (te := tVar 11) (vs := [11, 12]) (fun i H1 => Same H H1 ∧ H1 D = some (.lst (((namesP ps).take i).map V.str))) ?_ ?_ ?_ ?_
  · exact ⟨same_upd (Same.refl H) hD, upd_same⟩
  · rintro i H1 _ ⟨g, _⟩
    exact SqT.of (g _ _ et)
  · rintro i y H1 hy ⟨g, g1⟩
    rw [List.getElem?_map] at hy
    obtain ⟨p, hp, rfl⟩ := Option.map_eq_some_iff.mp hy
    obtain ⟨⟨m, sg⟩, hm, hpa⟩ := paired_get pr hp
    have hpa1 := g _ _ hpa
    have ht : (namesP ps)[i]? = some m := by unfold namesP; rw [List.getElem?_map, hm]; rfl
    refine ⟨p, _, rfl, SqT.of hpa1, rfl, _, _, rfl, _, _, rfl, rfl, rfl, _, rfl, _, g1, ?_, same_mut g hD, ?_⟩
    · have h9 : ((namesP ps).take i).length ≤ (namesP ps).length := List.length_take_le' ..
      rw [List.length_map, sizeLine_eq]; omega
    · rw [upd_same, take_snoc ht, List.map_append]; rfl
  · rintro H1 ⟨g, g1⟩
    rw [List.length_map, List.take_of_length_le (by omega)] at g1
    exact q H1 g g1
theorem and3 {ta tb tc : TE} {σ : L2.St} {H : Hp} {Q : VK} {c1 c2 c3 : Bool} (h1 : ∀ Q : VK, Q (.bl c1) H → ta σ H Q) (h2 : ∀ Q : VK, Q (.bl c2) H → tb σ H Q) (h3 : ∀ Q : VK, Q (.bl c3) H → tc σ H Q) (q : Q (.bl (c1 && (c2 && c3))) H) : tAndV ta (tAndV tb tc) σ H Q := by
  refine h1 _ ⟨_, rfl, ?_⟩
  cases c1 with
  | false => exact iteF q
  | true =>
    refine iteT (h2 _ ⟨_, rfl, ?_⟩)
    cases c2 with
    | false => exact iteF q
    | true => exact iteT (h3 _ q)
abbrev s_more : Stmt := top 39
theorem sc_more : FnScope ["pot", "streams", "record", "fresh", "one", "other", "due", "names", "is_let", "more", "found", "name", "signs"] ["pot", "streams", "record"] (defScope s_more) := ⟨rfl, rfl, rfl, by decide +kernel, rfl, by decide +kernel, by decide +kernel⟩
theorem cal_more {fI : Addr} {fdI : FuncData} (T : Bs mg) (Z : Sx K mg C SO) (D : Df K mg "_law_more" s_more ["pot", "streams", "record"]) (C_dip : Cal P w K mg base 1 "_law_dip" spDip) (C_parts : Cal P w K mg base 5 "_law_parts" spParts) (M_add : Mth P w K mg base (L2.CX P w) C "__add__" 7 (spAdd C SO))
    (MK : L2.Mk K C fI) (C_init : FnG P w K mg base CX0 5 fI fdI ["self", "sources", "sinks"] (spInit C)) (BI : Binds K fdI ["self", "sources", "sinks"] []) : Cal P w K mg base 8 "_law_more" (spMove C true) := by
  refine D.cal sc_more (fun vs H Q E h => ?_) (fun f cdv A outer s H vs Q E hr h => ?_)
  · obtain ⟨a, x, r, ps, qs, rfl, _⟩ := h
    rfl
  · obtain ⟨a, x, r, ps, qs, rfl, hp, b, k, kn⟩ := h
    obtain ⟨t6, d6, r6⟩ : ∃ t6 : TS, PSs (cxOf CX0 P w K mg base ["pot", "streams", "record", "fresh", "one", "other", "due", "names", "is_let", "more", "found", "name", "signs"] "_law_more" (defScope s_more) f cdv A outer s H E).nox ((defBody s_more).drop 2) t6 ∧
        ∀ (H3 : Hp) (fr ao bo : Addr) (p1 q1 p2 q2 fp fq : Parts), Stp a H H3 → Fine p1 q1 → Fine p2 q2 → Fine fp fq → RecAt (hid a H3) fr fp fq → RecAt (hid a H3) ao p1 q1 → RecAt (hid a H3) bo p2 q2 →
          ((p1 = ps ∧ q1 = qs ∧ p2 = fp ∧ q2 = fq) ∨ (p1 = fp ∧ q1 = fq ∧ p2 = ps ∧ q2 = qs)) → t6 { nx := fun _ H' => Q .non H', rt := Q } [some (.ref a), some (.ref x), some (.ref r), some (.ref fr), some (.ref ao), some (.ref bo), none, none, none, none, none, none, none] H3 := by
      refine ⟨_, pss_cons (ps_set (i := 6) sc_more.nd rfl (.inl rfl) (pe_lstN (pa_cons (pe_op op_catA (pe_ix ix_list (pv 4) pe_int (fun _ _ => rfl)) (pe_ix ix_list (pv 5) pe_int (fun _ _ => rfl))) (pa_cons (pe_op op_catA (pe_ix ix_list (pv 4) pe_int (fun _ _ => rfl)) (pe_ix ix_list (pv 5) pe_int (fun _ _ => rfl))) pa_nil))))
      (pss_cons (ps_setLc (i := 7) (own := [("name", 11), ("signs", 12)]) (te := (tVar 11)) (g := gTup K 2 (gCons (gName 11) (gCons (gName 12) gNil))) rfl sc_more.nd rfl rfl (sw_true rfl rfl rfl (by decide +kernel)) (pi_tup (pe_op op_catA (pe_ix ix_list (pv 6) pe_int (fun _ _ => rfl)) (pe_ix ix_list (pv 6) pe_int (fun _ _ => rfl)))) (blkOk_by (N := ["pot", "streams", "record", "fresh", "one", "other", "due", "names", "is_let", "more", "found", "name", "signs"]) (sc := defScope s_more) (by decide +kernel)) (fun _ _ _ _ _ => (pg_tup rfl (pgs_cons (pg_name (i := 11) sc_more.nd rfl (Or.inl rfl)) (pgs_cons (pg_name (i := 12) sc_more.nd rfl (Or.inl rfl)) pgs_nil)))) (fun _ _ _ _ _ => pts_nil) (fun _ _ _ _ _ => (pv 11)))
      (pss_cons (ps_set (i := 8) sc_more.nd rfl (.inl rfl) (pe_and (pe_cmpR op_eq (pe_lenSetS T.z_len T.z_set (pv 7)) (pb call_len3 T.z_len (pa_cons (pv 7) pa_nil)) (nomark _)) (pe_and (pe_cmpR op_lt (pb call_len3 T.z_len (pa_cons (pe_ix ix_list (pv 6) pe_int (fun _ _ => rfl)) pa_nil)) pe_int (nomark _)) (pe_one (pe_cmpR op_lt (pb call_len3 T.z_len (pa_cons (pe_ix ix_list (pv 6) pe_int (fun _ _ => rfl)) pa_nil)) pe_int (nomark _))))))
      (pss_cons (ps_set (i := 9) sc_more.nd rfl (.inl rfl) (pe_makeG (E := fun _ => E0) MK C_init hr Z.gC BI (fun _ => passAt0) (pa_cons (pe_ix ix_list (pv 3) pe_int (fun _ _ => rfl)) (pa_cons (pe_ix ix_list (pv 3) pe_int (fun _ _ => rfl)) pa_nil))))
      (pss_cons (ps_try_only (tb := fun W => tAsg (tIf (tTest (tOp rEqRec (tVar 4) (tVar 2))) (tAddM C (spAdd C SO) (WE W) (tVar 1) (tVar 9)) (tAddM C (spAdd C SO) (WE W) (tVar 9) (tVar 1))) (gName 10)) (ts := fun a cls d => tRet (tIf (tB (tVar 8)) (tLstN (tCons (tVar 1) (tCons (tLstN tNil) tNil))) (tC .non))) (Wout := fun _ _ _ _ => False) rfl rfl ⟨rfl, by decide, Or.inl Z.gO⟩ takes0
        (fun W pn xe tk _ => pss_one (ps_set (i := 10) sc_more.nd rfl (.inl rfl) (pe_ifExp (pt_cmpR (op_eqRec hr.rm.units) (pv 4) (pv 2) (nomark _)) (pe_addM M_add Z.sf hr (fun σ => passAt tk σ) (pv 1) (pv 9)) (pe_addM M_add Z.sf hr (fun σ => passAt tk σ) (pv 9) (pv 1)))))
        (fun a oe cls d pn hz hf => pss_one (ps_ret (pe_ifExp (pt_val (pv 8)) (pe_lstN (pa_cons (pv 1) (pa_cons (pe_lstN pa_nil) pa_nil))) pe_non))))
      (pss_one (ps_ret (pe_ifExp (pt_val (pv 8)) (pe_lstN (pa_cons (pv 10) (pa_cons (pv 6) pa_nil))) (pe_lstN (pa_cons (pv 1) (pa_cons (pe_lstN pa_nil) pa_nil)))))))))), ?_⟩
      intro H3 fr ao bo p1 q1 p2 q2 fp fq s3 f1 f2 f3 rf ra rb sel
      obtain ⟨u1, u2, ua, ub, uc⟩ := ra.le (hid_le a H3)
      obtain ⟨v1, v2, va, vb, vc⟩ := rb.le (hid_le a H3)
      obtain ⟨y1, y2, ya, yb, yc⟩ := rf.le (hid_le a H3)
      obtain ⟨l1, l3, m3, nd1⟩ := f1.out
      obtain ⟨k1, k3, j3, nd2⟩ := f2.out
      refine ⟨_, rfl, ao, _, 0, .ref u1, rfl, rfl, SqL.of ua, rfl, _, rfl, bo, _, 0, .ref v1, rfl, rfl, SqL.of va, rfl, ?_⟩
      refine parts_cat ub vb (by omega) fun c1 H4 e4 hc1 => ?_
      refine ⟨_, rfl, ao, _, 1, .ref u2, rfl, rfl, SqL.of (e4 _ _ ua), rfl, _, rfl, bo, _, 1, .ref v2, rfl, rfl, SqL.of (e4 _ _ va), rfl, ?_⟩
      refine parts_cat (uc.le (Tle.of_same e4)) (vc.le (Tle.of_same e4)) (by omega) fun c2 H5 e5 hc2 => ?_
      have s5 := (s3.trans (Stp.of_same s3.pot e4)).trans (Stp.of_same (Stp.of_same s3.pot e4).pot e5)
      refine ⟨by show 2 ≤ sizeLine; decide, fun du hdu ndu => ?_⟩
      obtain ⟨w6, k6, na6, m6⟩ := nw (o := .lst [V.ref c1, .ref c2]) s5.pot hdu
      generalize upd H5 du (.lst [V.ref c1, .ref c2]) = H6 at w6 k6 m6
      have s6 := s5.trans w6
      have d1 := (hc1.le (Tle.of_same (e5.trans m6)))
      have d2 := (hc2.le (Tle.of_same m6))
      refine ⟨_, rfl, du, _, 0, .ref c1, rfl, rfl, SqL.of k6, rfl, _, rfl, du, _, 1, .ref c2, rfl, rfl, SqL.of k6, rfl, ?_⟩
      refine parts_cat d1 d2 (by simp only [List.length_append]; omega) fun c3 H7 e7 hc3 => ?_
      refine ⟨c3, rfl, ⟨_, SqT.of hc3.choose_spec.1⟩, fun D hD => ?_⟩
      refine lc_names1112 rfl hc3 (by simp only [List.length_append]; omega) hD fun H8 e8 g8 => ?_
      have e68 := e7.trans e8
      have e38 : Same H3 H8 := ((e4.trans e5).trans m6).trans e68
      have k8 := e68 _ _ k6
      have d18 := d1.le (Tle.of_same e68)
      have d28 := d2.le (Tle.of_same e68)
      have nl : (namesP ((p1 ++ p2) ++ (q1 ++ q2))).length ≤ 12 := by unfold namesP; rw [List.length_map]; simp only [List.length_append]; omega
      dsimp only [gName, tSeq, tNext, tAsg]
      refine and3 (c1 := decide (namesP ((p1 ++ p2) ++ (q1 ++ q2))).Nodup) (c2 := decide ((p1 ++ p2).length ≤ 3)) (c3 := decide ((q1 ++ q2).length ≤ 3)) (fun Q' h => ?_) (fun Q' h => ?_) (fun Q' h => ?_) ?_
      · refine ⟨_, rfl, D, _, rfl, SqL.of g8, by omega, ?_⟩
        refine ⟨_, rfl, _, _, rfl, Of3.lst g8, rfl, ?_⟩
        rw [List.length_map (as := namesP ((p1 ++ p2) ++ (q1 ++ q2))), nodup_dec]
        exact h
      · obtain ⟨as, ea, pa⟩ := d18
        refine ⟨_, rfl, du, _, 0, .ref c1, rfl, rfl, SqL.of k8, rfl, _, _, rfl, Of3.tup ea, _, _, rfl, rfl, ?_⟩
        have e : decide ((((as.map V.ref).length : Nat) : Int) < 4) = decide ((p1 ++ p2).length ≤ 3) := by
          rw [List.length_map, paired_len pa]
          by_cases c : (p1 ++ p2).length ≤ 3
          · rw [decide_eq_true c, decide_eq_true (by omega)]
          · rw [decide_eq_false c, decide_eq_false (by omega)]
        show Q' (.bl (decide ((((as.map V.ref).length : Nat) : Int) < 4))) H8
        rw [e]
        exact h
      · obtain ⟨as, ea, pa⟩ := d28
        refine ⟨_, rfl, du, _, 1, .ref c2, rfl, rfl, SqL.of k8, rfl, _, _, rfl, Of3.tup ea, _, _, rfl, rfl, ?_⟩
        have e : decide ((((as.map V.ref).length : Nat) : Int) < 4) = decide ((q1 ++ q2).length ≤ 3) := by
          rw [List.length_map, paired_len pa]
          by_cases c : (q1 ++ q2).length ≤ 3
          · rw [decide_eq_true c, decide_eq_true (by omega)]
          · rw [decide_eq_false c, decide_eq_false (by omega)]
        show Q' (.bl (decide ((((as.map V.ref).length : Nat) : Int) < 4))) H8
        rw [e]
        exact h
      have hlet : (decide (namesP ((p1 ++ p2) ++ (q1 ++ q2))).Nodup && (decide ((p1 ++ p2).length ≤ 3) && decide ((q1 ++ q2).length ≤ 3))) = isLet (p1 ++ p2) (q1 ++ q2) := by
        unfold isLet
        rw [decide_eq_true (show 1 ≤ (p1 ++ p2).length by rw [List.length_append]; omega), Bool.true_and, Bool.and_comm]
      rw [hlet]
      have s8 := (s6.trans (Stp.of_same s6.pot e68))
      refine ⟨_, rfl, fr, _, 0, .ref y1, rfl, rfl, SqL.of (e38 _ _ ya), rfl, _, rfl, fr, _, 1, .ref y2, rfl, rfl, SqL.of (e38 _ _ ya), rfl, ?_⟩
      refine mk_get2 (yb.le (Tle.of_same e38)) (yc.le (Tle.of_same e38)) f3 fun m H9 e9 hm stm => ?_
      have e39 := e38.trans e9
      have s9 := s8.trans (Stp.of_same s8.pot e9)
      have b9 := b.le s9
      obtain ⟨stx, rcx⟩ := b9.at
      obtain ⟨x1, x3, z3, nx⟩ := b.fine.out
      obtain ⟨dx, _, _, _, _, sx, _⟩ := id stx
      obtain ⟨dm, _, _, _, _, sm, _⟩ := id stm
      have k9 := e9 _ _ k8
      have good : ∀ (z : Addr) (H' : Hp), Same H9 H' → StAt H' z C (p1 ++ p2) (q1 ++ q2) → isLet (p1 ++ p2) (q1 ++ q2) = true → ∀ p, H' p = none → Q (.ref p) (upd H' p (.lst [.ref z, .ref du])) := fun z H' e' st' hl p hpn => by
        have s' := s9.trans (Stp.of_same s9.pot e')
        obtain ⟨w', kk, na', _⟩ := nw (o := .lst [V.ref z, .ref du]) s'.pot hpn
        have rdu : RecAt (hid a H') du (p1 ++ p2) (q1 ++ q2) := ⟨c1, c2, (hid_ne na6).trans (e' _ _ k9), parts_hid s'.pot (d18.le (Tle.of_same (e9.trans e'))), parts_hid s'.pot (d28.le (Tle.of_same (e9.trans e')))⟩
        have o1 : okP (p1 ++ p2) := fun p hp => (List.mem_append.mp hp).elim (f1.o1 p) (f2.o1 p)
        have o2 : okP (q1 ++ q2) := fun p hp => (List.mem_append.mp hp).elim (f1.o2 p) (f2.o2 p)
        have bb : Both a H' C z du (p1 ++ p2) (q1 ++ q2) := ⟨st_hid s'.pot st', rdu, ⟨hl, o1, o2⟩⟩
        exact k p z du _ _ _ (s'.trans w') ((hid_ne na').trans kk) (bb.le w')
      have none' : ∀ H', Same H9 H' → Q .non H' := fun H' e' => kn rfl H' (s9.trans (Stp.of_same s9.pot e'))
      refine ⟨_, rfl, _, rfl, ao, r, p1, q1, rfl, rfl, (ra.le (hid_le a H3)).le e39, f1.o1, f1.o2, l3, m3, .inl ⟨ps, qs, rcx, b.fine.o1, b.fine.o2, x3, z3, _, rfl, ?_⟩⟩
      refine ite2 (fun c => ?_) (fun c => ?_)
      · obtain ⟨c1', c2'⟩ := of_decide_eq_true c
        have eq1 : p1 ++ p2 = ps ++ fp ∧ q1 ++ q2 = qs ++ fq := by
          rcases sel with ⟨g1, g2, g3, g4⟩ | ⟨g1, g2, g3, g4⟩
          · exact ⟨by rw [g1, g3], by rw [g2, g4]⟩
          · exact ⟨by rw [g3, ← g1, c1'], by rw [g4, ← g2, c2']⟩
        refine ⟨_, rfl, _, rfl, x, dx, m, dm, _, _, rfl, rfl, sx, sm, x, m, ps, qs, fp, fq, rfl, stx, stm, b.fine, f3, fun hl z H' e' st' => ?_, fun hl H' e' => ?_⟩
        · rw [← eq1.1, ← eq1.2] at hl st'
          refine ⟨_, rfl, _, rfl, ?_⟩
          rw [hl]
          exact iteT ⟨_, rfl, _, rfl, by show 2 ≤ sizeLine; decide, fun p hpn _ => good z H' e' st' hl p hpn⟩
        · rw [← eq1.1, ← eq1.2] at hl
          refine ⟨true, Z.teO, fun _ a0 _ => ⟨_, rfl, _, rfl, ?_⟩, fun q => nomatch q⟩
          rw [hl]
          exact iteF (none' H' e')
      · have eq1 : p1 ++ p2 = fp ++ ps ∧ q1 ++ q2 = fq ++ qs := by
          rcases sel with ⟨g1, g2, g3, g4⟩ | ⟨g1, g2, g3, g4⟩
          · exact absurd (decide_eq_true (⟨g1, g2⟩ : p1 = ps ∧ q1 = qs)) c
          · exact ⟨by rw [g1, g3], by rw [g2, g4]⟩
        refine ⟨_, rfl, _, rfl, m, dm, x, dx, _, _, rfl, rfl, sm, sx, m, x, fp, fq, ps, qs, rfl, stm, stx, f3, b.fine, fun hl z H' e' st' => ?_, fun hl H' e' => ?_⟩
        · rw [← eq1.1, ← eq1.2] at hl st'
          refine ⟨_, rfl, _, rfl, ?_⟩
          rw [hl]
          exact iteT ⟨_, rfl, _, rfl, by show 2 ≤ sizeLine; decide, fun p hpn _ => good z H' e' st' hl p hpn⟩
        · rw [← eq1.1, ← eq1.2] at hl
          refine ⟨true, Z.teO, fun _ a0 _ => ⟨_, rfl, _, rfl, ?_⟩, fun q => nomatch q⟩
          rw [hl]
          exact iteF (none' H' e')
    refine ⟨_, pss_cons (ps_set (i := 3) sc_more.nd rfl (.inl rfl) (pc C_parts hr (pa_cons (pv 0) (pa_cons pe_int pa_nil))))
      (pss_cons (ps_asg (pe_ifExp (pt_cmpR op_eq (pc C_dip hr (pa_cons (pv 0) (pa_cons pe_int pa_nil))) pe_int (nomark _)) (pe_tup (pa_cons (pv 2) (pa_cons (pv 3) pa_nil))) (pe_tup (pa_cons (pv 3) (pa_cons (pv 2) pa_nil)))) (pg_tup rfl (pgs_cons (pg_name (i := 4) sc_more.nd rfl (Or.inl rfl)) (pgs_cons (pg_name (i := 5) sc_more.nd rfl (Or.inl rfl)) pgs_nil)))) d6), ?_⟩
    refine ⟨_, rfl, a, 2, rfl, hp, by decide, by decide, fun fr t1 t2 fp fq H1 g hfr hl1 h1 h2 s1 => ?_⟩
    have fine2 := g.fine (show 2 ≤ 3 by decide)
    have b1 := b.le s1
    have rf : RecAt (hid a H1) fr fp fq := ⟨t1, t2, (hid_ne (hp.ne hfr)).trans hl1, parts_hid s1.pot h1, parts_hid s1.pot h2⟩
    refine ⟨_, rfl, a, 2, rfl, s1.pot, by decide, by decide, fun d H2 d0 d1 s2 => ⟨rfl, _, rfl, ?_⟩⟩
    refine ite2 (fun _ => ?_) (fun _ => ?_)
    · refine ⟨_, rfl, _, rfl, by show 2 ≤ sizeLine; decide, fun tt htt => ?_⟩
      obtain ⟨w3, k3, na3, m3⟩ := nw (o := .tup [V.ref r, .ref fr]) s2.pot htt
      have s23 := s2.trans w3
      refine ⟨tt, _, rfl, SqT.of k3, rfl, _, _, rfl, _, _, rfl, rfl, ?_⟩
      exact r6 _ fr r fr ps qs fp fq fp fq (s1.trans s23) b1.fine fine2 fine2 (rf.le s23.same) (b1.rc.le s23.same) (rf.le s23.same) (.inl ⟨rfl, rfl, rfl, rfl⟩)
    · refine ⟨_, rfl, _, rfl, by show 2 ≤ sizeLine; decide, fun tt htt => ?_⟩
      obtain ⟨w3, k3, na3, m3⟩ := nw (o := .tup [V.ref fr, .ref r]) s2.pot htt
      have s23 := s2.trans w3
      refine ⟨tt, _, rfl, SqT.of k3, rfl, _, _, rfl, _, _, rfl, rfl, ?_⟩
      exact r6 _ fr fr r fp fq ps qs fp fq (s1.trans s23) fine2 b1.fine fine2 (rf.le s23.same) (rf.le s23.same) (b1.rc.le s23.same) (.inr ⟨rfl, rfl, rfl, rfl⟩)
end
end Fs
namespace Fs
open PySem PySem.Spec PyProof.Rows L2 SlX RZ StX
/-! ### a stream less -/
def rTupOf (K : PySem.W.Frag) : List V → Hp → VK → Prop := fun xs H Q => ∃ p ys, xs = [.ref p] ∧ ((SqL K H p ys ∧ ∀ l, H l = none → Q (.ref l) (upd H l (.tup ys))) ∨ (SqT K H p ys ∧ Q (.ref p) H))
def rNeX : R2 := fun x y H Q => ∃ d e, Dx H x d ∧ Dx H y e ∧ SeqAt.shaped d = true ∧ SeqAt.shaped e = true ∧ Q (.bl (!PyData.eqv d e)) H
theorem op_neX {X : Cx} (hu : X.A.units + 64 < cLine) : OpR X (compareOp .NotEq) rNeX := by
  intro pins s σ H x y v u Q I rx ry h
  obtain ⟨d, e, hd, he, sd, se, q⟩ := h
  obtain ⟨as, r1, _⟩ := Dx.reads I d x v hd rx
  obtain ⟨bs, r2, _⟩ := Dx.reads I e y u he ry
  exact SeqAt.compareNe_shaped r1 r2 sd se hu ⟨.bl _, H, I, rfl, q⟩
theorem lessP_nil {n : Str} {ps : Parts} (h : lessP n ps = []) : ∀ p ∈ ps, p.1 = n := fun p hp => by
  by_cases c : p.1 = n
  · exact c
  · have : p ∈ lessP n ps := List.mem_filter.mpr ⟨hp, decide_eq_true c⟩
    rw [h] at this
    exact nomatch this
theorem less_only {kd : Nat} {ps qs gs : Parts} {nm sg : Str} (nd : (namesP (ps ++ qs)).Nodup) (l1 : 1 ≤ ps.length) (sel : kd = 0 ∧ gs = ps ∨ kd = 1 ∧ gs = qs) (hm : (nm, sg) ∈ gs) : (decide (V.int ((kd : Nat) : Int) = V.int 0) && decide (V.int ((ps.length : Nat) : Int) = V.int 1)) = decide (lessP nm ps = []) := by
  rcases sel with ⟨rfl, rfl⟩ | ⟨rfl, rfl⟩
  · rw [decide_eq_true (show V.int (((0 : Nat) : Nat) : Int) = V.int 0 from rfl), Bool.true_and]
    by_cases c : lessP nm gs = []
    · rw [decide_eq_true c]
      have h := lessP_nil c
      have : gs.length = 1 := by
        match gs, l1, h, nd with
        | [_], _, _, _ => rfl
        | a :: b :: l, _, h, nd =>
          have e1 := h a (List.mem_cons_self ..)
          have e2 := h b (List.mem_cons_of_mem _ (List.mem_cons_self ..))
          have := (List.nodup_cons.mp (show (a.1 :: namesP (b :: l ++ qs)).Nodup from nd)).1
          exact absurd (show a.1 ∈ namesP (b :: l ++ qs) by rw [e1, ← e2]; exact List.mem_cons_self ..) this
      rw [this]; rfl
    · rw [decide_eq_false c]
      refine decide_eq_false fun q => c ?_
      injection q with q
      have q : gs.length = 1 := by omega
      match gs, q, hm with
      | [p], _, hm =>
        have := List.mem_singleton.mp hm
        subst this
        unfold lessP
        simp
  · rw [decide_eq_false (show ¬ V.int (((1 : Nat) : Nat) : Int) = V.int 0 from fun q => by injection q with q; omega), Bool.false_and]
    refine (decide_eq_false fun c => ?_).symm
    have h := lessP_nil c
    match ps, l1, h, nd with
    | a :: l, _, h, nd =>
      have e1 := h a (List.mem_cons_self ..)
      have := (List.nodup_cons.mp (show (a.1 :: namesP (l ++ gs)).Nodup from nd)).1
      exact this (List.mem_map.mpr ⟨_, List.mem_append_right _ hm, e1.symm⟩)
theorem and2 {ta tb : TE} {σ : L2.St} {H : Hp} {Q : VK} {c1 c2 : Bool} (h1 : ∀ Q : VK, Q (.bl c1) H → ta σ H Q) (h2 : ∀ Q : VK, Q (.bl c2) H → tb σ H Q) (q : Q (.bl (c1 && c2)) H) : tAndV ta tb σ H Q := by
  refine h1 _ ⟨_, rfl, ?_⟩
  cases c1 with
  | false => exact iteF q
  | true => exact iteT (h2 _ q)
section
variable {P : Program} {w : World} {K : PySem.W.Frag} {mg : Str → Option Value} {base : Heap} {C SO : Addr}
theorem lc_less10 {H : Hp} {t D : Addr} {n : Str} {ps : Parts} {σ : L2.St} {v0 v1 v2 v3 v5 v6 v7 v8 : Option V} {Qd : Hp → Prop} (hσ : σ = [v0, v1, v2, v3, some (.str n), v5, v6, v7, v8, none]) (ht : PartsT H t ps) (hps : ps.length ≤ 1000) (hD : H D = none)
    (q : ∀ (H' : Hp) (bs : List Addr), Same H H' → H' D = some (.lst (bs.map V.ref)) → Paired (PairAt H') bs (lessP n ps) → Qd H') :
    ∃ W : Nat → Nat → Hp → Prop, (∃ m, W 0 m (upd H D (.lst []))) ∧ ∀ i m H, W i m H →
      ((Itt K t).stop i H ∧ Qd H) ∨ ((Itt K t).go i H ∧ ∃ Nx : Hp → Prop, (∀ H', Nx H' → ∃ m', m' < m ∧ W (i + 1) m' H') ∧ ∀ x H', (Itt K t).yld i H x H' → gName 9 x (wipe σ [9]) H' fun σ2 H2 => wipe σ2 [9] = wipe σ [9] ∧ tTest (tOp rNe (tOp (rIx3 K) (tVar 9) (tC (.int 0))) (tVar 4)) σ2 H2 fun b H3 =>
        if b = true then tVar 9 σ2 H3 fun y H4 => ∃ acc, H4 D = some (.lst acc) ∧ acc.length < sizeLine ∧ Nx (upd H4 D (.lst (acc ++ [y]))) else Nx H3) := by
  subst hσ
  obtain ⟨as, et, pr⟩ := ht
  have lp := paired_len pr
  refine lc_tup (K := K) (a := t) (xs := as.map V.ref) (fun i H1 => Same H H1 ∧ ∃ bs : List Addr, H1 D = some (.lst (bs.map V.ref)) ∧ Paired (PairAt H1) bs (lessP n (ps.take i))) ?_ ?_ ?_ ?_
  · exact ⟨same_upd (Same.refl H) hD, [], upd_same, .nil⟩
  · rintro i H1 _ ⟨g, _⟩
    exact SqT.of (g _ _ et)
  · rintro i y H1 hy ⟨g, bs, g1, g2⟩
    rw [List.getElem?_map] at hy
    obtain ⟨p, hp, rfl⟩ := Option.map_eq_some_iff.mp hy
    obtain ⟨⟨m, sg⟩, hm, hpa⟩ := paired_get pr hp
    have hpa1 := g _ _ hpa
    have hi : i < as.length := (List.getElem?_eq_some_iff.mp hp).1
    refine ⟨rfl, _, rfl, _, 0, .str m, rfl, Of3.tup hpa1, by decide, rfl, _, rfl, rfl, _, rfl, ?_⟩
    rw [lessP_snoc hm]
    by_cases c : m = n
    · rw [decide_eq_true (show V.str m = V.str n by rw [c]), if_pos c, List.append_nil]
      exact iteF ⟨g, bs, g1, g2⟩
    · rw [decide_eq_false (show ¬ V.str m = V.str n from fun q => c (by injection q)), if_neg c]
      refine iteT ?_
      have lb : bs.length ≤ 1000 := by
        have h1 := paired_len g2
        have h2 := lessP_len (n := n) (ps := ps.take i)
        have h3 : (ps.take i).length ≤ ps.length := List.length_take_le' ..
        omega
      refine ⟨_, rfl, _, g1, by rw [List.length_map, sizeLine_eq]; omega, same_mut g hD, bs ++ [p], by rw [upd_same, List.map_append]; rfl, ?_⟩
      have hle : ∀ b o, PairAt H1 b o → PairAt (upd H1 D (.lst (bs.map V.ref ++ [.ref p]))) b o := fun b o hb => by
        show (upd _ D _) b = _
        rw [upd_ne (ne_of hb g1 (by intro z; cases z))]; exact hb
      exact paired_snoc (L2.Paired.mapP g2 fun b o hb => hle b o hb) (hle p (m, sg) hpa1)
  · rintro H1 ⟨g, bs, g1, g2⟩
    rw [List.length_map, lp, List.take_of_length_le (Nat.le_refl _)] at g2
    exact q H1 bs g g1 g2
abbrev s_less : Stmt := top 38
theorem sc_less : FnScope ["pot", "streams", "record", "kind", "name", "is_only", "found", "due", "part", "pair"] ["pot", "streams", "record"] (defScope s_less) := ⟨rfl, rfl, rfl, by decide +kernel, rfl, by decide +kernel, by decide +kernel⟩
theorem cal_less (T : Bs mg) (Z : Sx K mg C SO) (D : Df K mg "_law_less" s_less ["pot", "streams", "record"]) (C_dip : Cal P w K mg base 1 "_law_dip" spDip) (C_choose : Cal P w K mg base 2 "_law_choose" (spChoose K)) (M_without : Mth P w K mg base (L2.CX P w) C "without" 7 (spLess C SO)) : Cal P w K mg base 8 "_law_less" (spMove C true) := by
  refine D.cal sc_less (fun vs H Q E h => ?_) (fun f cdv A outer s H vs Q E hr h => ?_)
  · obtain ⟨a, x, r, ps, qs, rfl, _⟩ := h
    rfl
  · obtain ⟨a, x, r, ps, qs, rfl, hp, b, k, kn⟩ := h
    obtain ⟨t6, d6, r6⟩ : ∃ t6 : TS, PSs (cxOf CX0 P w K mg base ["pot", "streams", "record", "kind", "name", "is_only", "found", "due", "part", "pair"] "_law_less" (defScope s_less) f cdv A outer s H E).nox ((defBody s_less).drop 1) t6 ∧
        ∀ (H3 : Hp) (kd : Nat) (gs : Parts), Stp a H H3 → (kd = 0 ∧ gs = ps ∨ kd = 1 ∧ gs = qs) → gs ≠ [] → t6 { nx := fun _ H' => Q .non H', rt := Q } [some (.ref a), some (.ref x), some (.ref r), some (.int kd), none, none, none, none, none, none] H3 := by
      refine ⟨_, pss_cons (ps_set (i := 4) sc_less.nd rfl (.inr rfl) (pe_ix ix_3 (pc C_choose hr (pa_cons (pv 0) (pa_cons (pe_ix ix_list (pv 2) (pv 3) (fun _ _ => rfl)) pa_nil))) pe_int (fun _ _ => rfl)))
      (pss_cons (ps_set (i := 5) sc_less.nd rfl (.inl rfl) (pe_and (pe_cmpR op_eq (pv 3) pe_int (nomark _)) (pe_one (pe_cmpR op_eq (pb call_len3 T.z_len (pa_cons (pe_ix ix_list (pv 2) pe_int (fun _ _ => rfl)) pa_nil)) pe_int (nomark _)))))
      (pss_cons (ps_try_only (tb := fun W => tAsg (fun σ H Q => tVar 1 σ H fun x H1 => ∃ a dx vs, x = .ref a ∧ Slt H1 a C dx vs ∧ tCons (tVar 4) tNil σ H1 fun ws H2 => spLess C SO (x :: ws) H2 Q (WE W σ)) (gName 6)) (ts := fun a cls d => tRet (tIf (tB (tVar 5)) (tC .non) (tLstN (tCons (tVar 1) (tCons (tLstN tNil) tNil))))) (Wout := fun _ _ _ _ => False) rfl rfl ⟨rfl, by decide, Or.inl Z.gO⟩ takes0
        (fun W pn xe tk _ => pss_one (ps_set (i := 6) sc_less.nd rfl (.inl rfl) (pe_mthd (E := WE W) M_without Z.sc hr (fun σ => passAt tk σ) (pv 1) (pa_cons (pv 4) pa_nil))))
        (fun a oe cls d pn hz hf => pss_one (ps_ret (pe_ifExp (pt_val (pv 5)) pe_non (pe_lstN (pa_cons (pv 1) (pa_cons (pe_lstN pa_nil) pa_nil)))))))
      (pss_cons (ps_setLc (i := 7) (own := [("part", 8)]) (te := tCB (rTupOf K) (tCons (tLc (iTup K (tVar 8)) (gName 9) (tTest (tOp rNe (tOp (rIx3 K) (tVar 9) (tC (.int 0))) (tVar 4))) (tVar 9) [9]) tNil)) rfl sc_less.nd rfl rfl (sw_true rfl rfl rfl (by decide +kernel)) (pi_list (pv 2)) (blkOk_by (N := ["pot", "streams", "record", "kind", "name", "is_only", "found", "due", "part", "pair"]) (sc := defScope s_less) (by decide +kernel)) (fun _ _ _ _ _ => (pg_name (i := 8) sc_less.nd rfl (Or.inl rfl))) (fun _ _ _ _ _ => pts_nil)
        (fun _ _ _ _ _ => (pt call_tuple_of T.z_tuple (pa_cons (pe_lc (own := [("pair", 9)]) (te := (tVar 9)) (tt := (tTest (tOp rNe (tOp (rIx3 K) (tVar 9) (tC (.int 0))) (tVar 4)))) rfl sc_less.nd (pi_tup (pv 8)) (blkOk_by (N := ["pot", "streams", "record", "kind", "name", "is_only", "found", "due", "part", "pair"]) (sc := { kind := .function, names := [(".0", .local), ("part", .local), ("tuple", .globalImplicit), ("name", .cell)], isGenerator := false, isCoroutine := false }) (by decide +kernel)) (fun _ _ _ _ _ => (pg_name (i := 9) sc_less.nd rfl (Or.inl rfl))) (fun _ _ _ _ _ => (pts_one (pt_cmpR op_ne (pe_ix ix_3 (pv 9) pe_int (fun _ _ => rfl)) (pv 4) (nomark _)))) (fun _ _ _ _ _ => (pv 9))) pa_nil))))
      (pss_one (ps_ret (pe_ifExp (pt_val (pv 5)) (pe_lstN (pa_cons (pv 1) (pa_cons (pe_lstN pa_nil) pa_nil))) (pe_lstN (pa_cons (pv 6) (pa_cons (pv 7) pa_nil))))))))), ?_⟩
      intro H3 kd gs s3 sel ne
      obtain ⟨u1, u2, ua, ub, uc⟩ := b.rc.le (hid_le a H)
      have ra : r ≠ a := fun e => by
        have := b.rc
        obtain ⟨_, _, z, _⟩ := this
        exact (hid_some z).1 e
      obtain ⟨l1, l3, m3, nd⟩ := b.fine.out
      have b3 := b.le s3
      obtain ⟨u1, u2, ua', ub', uc'⟩ := b3.rc
      have ua := (hid_le a H3) _ _ ua'
      obtain ⟨ug, hix, hug, g3l, okg⟩ : ∃ ug, atI [V.ref u1, .ref u2] ((kd : Nat) : Int) = some (.ref ug) ∧ PartsT (hid a H3) ug gs ∧ gs.length ≤ 3 ∧ okP gs := by
        rcases sel with ⟨rfl, rfl⟩ | ⟨rfl, rfl⟩
        · exact ⟨u1, rfl, ub', l3, b.fine.o1⟩
        · exact ⟨u2, rfl, uc', m3, b.fine.o2⟩
      obtain ⟨as, hga, pr⟩ := hug
      have lp := paired_len pr
      have nas : as.map V.ref ≠ [] := fun e => ne (List.eq_nil_of_length_eq_zero (by rw [← lp, List.map_eq_nil_iff.mp e]; rfl))
      refine ⟨_, rfl, _, rfl, _, rfl, r, _, _, .ref ug, rfl, rfl, SqL.of ua, hix, a, _, _, rfl, s3.pot, Of3.tup hga, nas, by rw [List.length_map]; omega, fun v H4 hv s4 => ?_⟩
      obtain ⟨p, hp, rfl⟩ := List.mem_map.mp hv
      obtain ⟨i, hi⟩ := List.mem_iff_getElem?.mp hp
      obtain ⟨⟨nm, sg⟩, hm, hpa⟩ := paired_get pr hi
      have hmem := List.mem_of_getElem? hm
      have lo := lo_name (okg _ hmem).1
      have hpa4 := (hid_le a H4) _ _ (s4.same _ _ hpa)
      refine ⟨_, 0, .str nm, rfl, Of3.tup hpa4, by decide, rfl, ?_⟩
      have s34 := s3.trans s4
      have b4 := b.le s34
      obtain ⟨w1, w2, wa', wb', wc'⟩ := b4.rc
      have wa := (hid_le a H4) _ _ wa'
      obtain ⟨ws, hw1, pw⟩ := wb'
      have lw := paired_len pw
      dsimp only [gName, tSeq, tNext, tAsg]
      refine and2 (c1 := decide (V.int ((kd : Nat) : Int) = V.int 0)) (c2 := decide (V.int ((ps.length : Nat) : Int) = V.int 1)) (fun Q' h => ?_) (fun Q' h => ?_) ?_
      · exact ⟨_, rfl, rfl, h⟩
      · refine ⟨_, rfl, r, _, 0, .ref w1, rfl, rfl, SqL.of wa, rfl, ?_⟩
        refine ⟨_, _, rfl, Of3.tup ((hid_le a H4) _ _ hw1), rfl, ?_⟩
        rw [List.length_map, lw]
        exact h
      rw [less_only nd l1 sel hmem]
      obtain ⟨stx, rcx⟩ := b4.at
      obtain ⟨dx, _, _, _, _, sx, _⟩ := id stx
      have hn : nm ∈ namesP (ps ++ qs) := by
        refine List.mem_map.mpr ⟨(nm, sg), List.mem_append.mpr ?_, rfl⟩
        rcases sel with ⟨_, rfl⟩ | ⟨_, rfl⟩
        · exact .inl hmem
        · exact .inr hmem
      refine ⟨_, rfl, x, dx, _, rfl, sx, _, rfl, x, nm, ps, qs, rfl, stx, b.fine, ⟨Nat.le_trans lo.len (by decide), lo.cod⟩, hn, fun h0 z H5 e5 stz => ?_, fun h0 H5 e5 => ?_⟩
      · have s5 := s34.trans (Stp.of_same s34.pot e5)
        have b5 := b.le s5
        obtain ⟨y1, y2, ya', yb', yc'⟩ := b5.rc
        have ya := (hid_le a H5) _ _ ya'
        have yb := yb'.le (Tle.of_same (hid_le a H5))
        have yc := yc'.le (Tle.of_same (hid_le a H5))
        refine ⟨_, rfl, r, rfl, ⟨_, SqL.of ya⟩, fun D hD => ?_⟩
        refine lc_list (K := K) (a := r) (xs := [V.ref y1, .ref y2]) (fun i H6 => Same H5 H6 ∧ ∃ ts : List Addr, H6 D = some (.lst (ts.map V.ref)) ∧ Paired (PartsT H6) ts (([ps, qs].take i).map (lessP nm))) ?_ ?_ ?_ ?_
        · exact ⟨same_upd (Same.refl H5) hD, [], upd_same, .nil⟩
        · rintro i H6 _ ⟨g, _⟩
          exact SqL.of (g _ _ ya)
        · rintro i y H6 hy ⟨g, ts, g1, g2⟩
          obtain ⟨ui, pi, rfl, hui, lpi, hpi⟩ : ∃ ui pi, y = .ref ui ∧ PartsT H5 ui pi ∧ pi.length ≤ 3 ∧ [ps, qs][i]? = some pi := by
            match i, hy with
            | 0, hy => cases hy; exact ⟨y1, ps, rfl, yb, l3, rfl⟩
            | 1, hy => cases hy; exact ⟨y2, qs, rfl, yc, m3, rfl⟩
            | i + 2, hy => simp at hy
          have hui6 := hui.le (Tle.of_same g)
          refine ⟨rfl, _, rfl, ui, rfl, ⟨_, SqT.of hui6.choose_spec.1⟩, fun D2 hD2 => ?_⟩
          refine lc_less10 rfl hui6 (by omega) hD2 fun H7 bs e7 g3 g4 => ?_
          refine ⟨D2, _, rfl, .inl ⟨SqL.of g3, fun u hu => ?_⟩⟩
          have e8 := same_upd (o := .tup (bs.map V.ref)) (Same.refl H7) hu
          have k8 : (upd H7 u (.tup (bs.map V.ref))) u = _ := upd_same
          generalize upd H7 u (.tup (bs.map V.ref)) = H8 at e8 k8
          have e68 := e7.trans e8
          have g18 := e68 _ _ g1
          have lts : ts.length ≤ 2 := by
            have h1 := paired_len g2
            rw [List.length_map] at h1
            have h2 : ([ps, qs].take i).length ≤ 2 := List.length_take_le' ..
            omega
          refine ⟨_, g18, by rw [List.length_map, sizeLine_eq]; omega, same_mut (g.trans e68) hD, ts ++ [u], by rw [upd_same, List.map_append]; rfl, ?_⟩
          rw [take_snoc hpi, List.map_append]
          refine paired_snoc (L2.Paired.mapP g2 fun t p ht => parts_nl g18 (ht.le (Tle.of_same e68))) ?_
          exact parts_nl g18 ⟨bs, k8, pairs_le (Tle.of_same e8) g4⟩
        · rintro H6 ⟨g, ts, g1, g2⟩
          have g2 : Paired (PartsT H6) ts [lessP nm ps, lessP nm qs] := g2
          match ts, g2, g1 with
          | [c1, c2], .cons p1 (.cons p2 .nil), g1 =>
            have s6 := s5.trans (Stp.of_same s5.pot g)
            refine ⟨_, rfl, _, rfl, ?_⟩
            rw [decide_eq_false h0]
            refine iteF ⟨_, rfl, _, rfl, by show 2 ≤ sizeLine; decide, fun p hp0 _ => ?_⟩
            obtain ⟨w7, k7, na7, m7⟩ := nw (o := .lst [V.ref z, .ref D]) s6.pot hp0
            have Da : D ≠ a := s5.pot.ne hD
            have bb : Both a H6 C z D (lessP nm ps) (lessP nm qs) := ⟨st_hid s6.pot (stz.le g), ⟨c1, c2, (hid_ne Da).trans g1, parts_hid s6.pot p1, parts_hid s6.pot p2⟩, fine_less b.fine h0⟩
            exact k p z D _ _ _ (s6.trans w7) ((hid_ne na7).trans k7) (bb.le w7)
      · have s5 := s34.trans (Stp.of_same s34.pot e5)
        refine ⟨true, Z.teO, fun _ a0 _ => ⟨_, rfl, _, rfl, ?_⟩, fun q => nomatch q⟩
        rw [decide_eq_true h0]
        exact iteT (kn rfl H5 s5)
    refine ⟨_, pss_cons (ps_set (i := 3) sc_less.nd rfl (.inl rfl) (pe_ifExp (pt_cmpR (op_neX hr.rm.units) (pe_ix ix_list (pv 2) pe_int (fun _ _ => rfl)) (pe_tup pa_nil) (nomark _)) (pc C_dip hr (pa_cons (pv 0) (pa_cons pe_int pa_nil))) pe_int)) d6, ?_⟩
    obtain ⟨u1, u2, ua, ub, uc⟩ := b.rc.le (hid_le a H)
    obtain ⟨l1, l3, m3, nd⟩ := b.fine.out
    refine ⟨_, rfl, r, _, 1, .ref u2, rfl, rfl, SqL.of ua, rfl, by show 0 ≤ sizeLine; decide, fun e0 he0 => ?_⟩
    obtain ⟨w1, k1, na1, m1⟩ := nw (o := .tup []) hp he0
    generalize upd H e0 (.tup []) = H1 at w1 k1 m1
    refine ⟨dParts qs, dParts [], parts_dx0 (uc.le (Tle.of_same m1)) b.fine.o2, .tup k1 .nil, shaped_parts (okP_part b.fine.o2), shaped_parts (okP_part (ps := []) (fun p h => nomatch h)), _, rfl, ?_⟩
    rw [eqv_parts]
    have np : ps ≠ [] := fun e => by rw [e] at l1; exact absurd l1 (by decide)
    refine ite2 (fun c => ?_) (fun _ => ?_)
    · have nq : qs ≠ [] := fun e => by rw [e] at c; revert c; decide
      refine ⟨_, rfl, a, 2, rfl, w1.pot, by decide, by decide, fun d H2 d0 d1 s2 => ?_⟩
      have hd : d = ((0 : Nat) : Int) ∨ d = ((1 : Nat) : Int) := by omega
      rcases hd with rfl | rfl
      · exact r6 H2 0 ps (w1.trans s2) (.inl ⟨rfl, rfl⟩) np
      · exact r6 H2 1 qs (w1.trans s2) (.inr ⟨rfl, rfl⟩) nq
    · exact r6 H1 0 ps w1 (.inl ⟨rfl, rfl⟩) np
end
end Fs
namespace Fs
open PySem PySem.Spec PyProof.Rows L2 SlX RZ StX
/-! ### list(zip(a, b)) -/
theorem zip_no_len : typeLookup (.type "zip") "__len__" = pure none := by rw [typeLookup_type, builtinLookup_eq_fast]; kernel_rfl
theorem zip_no_hint : typeLookup (.type "zip") "__length_hint__" = pure none := by rw [typeLookup_type, builtinLookup_eq_fast]; kernel_rfl
/-- the zip ahead of turn k; of its tuples one may still be out -/
structure ZS (h : Heap) (z TI TO i1 i2 a b : Addr) (k : Nat) : Prop where
  zp : (IsZip h z TI TO .none ∧ ∃ x y, IsPair h TO x y) ∨ ∃ (T : Addr) (f : Bool) (oT : Obj), IsZipHeld h z TI TO T f ∧ h.get? T = some oT ∧ T ∉ [z, TI, TO, i1, i2]
  ti : IsPair h TI (.ref i1) (.ref i2)
  t1 : h.IsListIter i1 a k
  t2 : h.IsListIter i2 b k
  to : ∃ o, h.get? TO = some o
theorem ZS.keep {h h' : Heap} {z TI TO i1 i2 a b : Addr} {k : Nat} (S : ZS h z TI TO i1 i2 a b k) (k1 : ∀ c ∈ [z, TI, TO, i1, i2], ∀ o, h.get? c = some o → h'.get? c = some o) (k2 : ∀ c o, h.get? c = some o → ∃ o', h'.get? c = some o') : ZS h' z TI TO i1 i2 a b k := by
  refine ⟨?_, k1 TI (by simp) _ S.ti, S.t1.at fun o q => k1 i1 (by simp) o q, S.t2.at fun o q => k1 i2 (by simp) o q, ?_⟩
  · rcases S.zp with ⟨h1, x, y, h2⟩ | ⟨T, f, oT, h1, h2, h3⟩
    · exact .inl ⟨k1 z (by simp) _ h1, x, y, k1 TO (by simp) _ h2⟩
    · obtain ⟨o', e⟩ := k2 T oT h2
      exact .inr ⟨T, f, o', k1 z (by simp) _ h1, e, h3⟩
  · obtain ⟨o, e⟩ := S.to
    exact ⟨o, k1 TO (by simp) _ e⟩
theorem ZS.lt {h : Heap} {z TI TO i1 i2 a b : Addr} {k : Nat} (S : ZS h z TI TO i1 i2 a b k) : ∀ c ∈ [z, TI, TO, i1, i2], c < h.objs.size := by
  intro c hc
  have e' : c = z ∨ c = TI ∨ c = TO ∨ c = i1 ∨ c = i2 := by simpa using hc
  rcases e' with q | q | q | q | q
  · rw [q]
    rcases S.zp with ⟨h1, _⟩ | ⟨_, _, _, h1, _⟩
    · exact Heap.lt_size h1
    · exact Heap.lt_size h1
  · rw [q]; exact Heap.lt_size S.ti
  · rw [q]; obtain ⟨o, e⟩ := S.to; exact Heap.lt_size e
  · rw [q]; obtain ⟨_, e, _⟩ := S.t1; exact Heap.lt_size e
  · rw [q]; obtain ⟨_, e, _⟩ := S.t2; exact Heap.lt_size e
section
variable {prog : Program} {w : World} {A : Around} {E : Value → Shared → Prop} {s : Shared}
theorem ZS.item {z TI TO i1 i2 a b : Addr} {k : Nat} {xs ys : Array Value} {x y : Value} {Q : Option Value → Shared → Prop} (D : ZipApart z TI TO i1 i2 a b) (S : ZS s.heap z TI TO i1 i2 a b k)
    (hl1 : s.heap.IsList a xs) (hl2 : s.heap.IsList b ys) (hx : xs[k]? = some x) (hy : ys[k]? = some y)
    (hQ : ∀ h', ZS h' z TI TO i1 i2 a b (k + 1) → IsPair h' s.heap.objs.size x y → (∀ c o, c ∉ [z, TI, TO, i1, i2] → s.heap.get? c = some o → h'.get? c = some o) → Q (some (.ref s.heap.objs.size)) { s with heap := h' }) :
    wpAny (model prog w) A (pyNext (.ref z)) Q E s := by
  have nT : s.heap.objs.size ∉ [z, TI, TO, i1, i2] := fun q => Nat.lt_irrefl _ (S.lt _ q)
  rcases S.zp with ⟨h1, x0, y0, h2⟩ | ⟨T, f, oT, h1, h2, h3⟩
  · refine wpAny_pyNext_zip_item D h1 S.ti h2 S.t1 S.t2 hl1 hl2 hx hy fun h' a1 a2 a3 a4 a5 a6 a7 => ?_
    refine hQ h' ⟨.inr ⟨_, false, _, a1, a5, nT⟩, a7 _ _ D.TIz D.TITO D.TIi1 D.TIi2 S.ti, a3, a4, ⟨_, a2⟩⟩ a5 fun c o hc e => ?_
    exact a7 c o (fun q => hc (by simp [q])) (fun q => hc (by simp [q])) (fun q => hc (by simp [q])) (fun q => hc (by simp [q])) e
  · refine wpAny_pyNext_zip_item_held D h1 h2 S.ti S.t1 S.t2 hl1 hl2 hx hy fun h' a1 a3 a4 a5 a6 a7 => ?_
    have n1 : T ≠ z := fun q => h3 (by simp [q])
    have n2 : T ≠ i1 := fun q => h3 (by simp [q])
    have n3 : T ≠ i2 := fun q => h3 (by simp [q])
    obtain ⟨o, e⟩ := S.to
    refine hQ h' ⟨.inr ⟨_, true, _, a1, a7 _ _ n1 n2 n3 h2, h3⟩, a7 _ _ D.TIz D.TIi1 D.TIi2 S.ti, a3, a4, ⟨_, a7 _ _ D.TOz D.TOi1 D.TOi2 e⟩⟩ a5 fun c o hc e => ?_
    exact a7 c o (fun q => hc (by simp [q])) (fun q => hc (by simp [q])) (fun q => hc (by simp [q])) e
theorem ZS.done {z TI TO i1 i2 a b : Addr} {k : Nat} {xs ys : Array Value} {Q : Option Value → Shared → Prop} (hh : A.handled = none) (D : ZipApart z TI TO i1 i2 a b) (S : ZS s.heap z TI TO i1 i2 a b k)
    (hl1 : s.heap.IsList a xs) (hl2 : s.heap.IsList b ys) (hx : xs[k]? = none ∨ ys[k]? = none)
    (hQ : ∀ h', (∀ c o, c ∉ [z, TI, TO, i1, i2] → s.heap.get? c = some o → h'.get? c = some o) → Q none { s with heap := h' }) :
    wpAny (model prog w) A (pyNext (.ref z)) Q E s := by
  rcases S.zp with ⟨h1, x0, y0, h2⟩ | ⟨T, f, oT, h1, h2, h3⟩
  · exact wpAny_pyNext_zip_end hh D h1 S.ti h2 S.t1 S.t2 hl1 hl2 hx fun h' a7 => hQ h' fun c o hc e => a7 c o (fun q => hc (by simp [q])) (fun q => hc (by simp [q])) (fun q => hc (by simp [q])) (fun q => hc (by simp [q])) e
  · exact wpAny_pyNext_zip_end_held hh D h1 h2 S.ti S.t1 S.t2 hl1 hl2 hx fun h' a7 => hQ h' fun c o hc e => a7 c o (fun q => hc (by simp [q])) (fun q => hc (by simp [q])) (fun q => hc (by simp [q])) e
end
def TupAt (H : Hp) (t : Addr) (p : V × V) : Prop := H t = some (.tup [p.1, p.2])
section
variable {X : Cx}
theorem drain_zip {pins : List (Addr × Obj)} {σ : L2.St} {S z TI TO i1 i2 a b : Addr} {xs ys : List V} {A : Around} {R : Result → Shared → Prop} {res : Value} {H0 : Hp} (hA : A.handled = none) (D : ZipApart z TI TO i1 i2 a b) (hS : S ∉ [z, TI, TO, i1, i2]) (hl : xs.length = ys.length) (hz : xs.length ≤ 100000)
    (ha : SqL X.K H0 a xs) (hb : SqL X.K H0 b ys) (hS0 : H0 S = none)
    (fin : ∀ s' H' ts, Inv X pins σ H' s' → Same H0 H' → H' S = some (.lst (ts.map V.ref)) → Paired (TupAt H') ts (xs.zip ys) → R (.ok (.ret res)) s') :
    ∀ (m k : Nat) (s : Shared) (H : Hp) (ts : List Addr), xs.length - k = m → k ≤ xs.length → Inv X pins σ H s → (∀ c ∈ [z, TI, TO, i1, i2], FpOk X pins H c) → Same H0 H → H S = some (.lst (ts.map V.ref)) → Paired (TupAt H) ts ((xs.zip ys).take k) → ZS s.heap z TI TO i1 i2 a b k →
      codeAny (model X.prog X.w) A (.builtin "list.extend.loop" ⟨[.ref S, .ref z, res], []⟩) R s := by
  intro m
  induction m with
  | zero =>
    intro k s H ts hm hk I hf e0 hSl pr st
    obtain ⟨its, rv, p1, _⟩ := I.list (e0.seq ha)
    obtain ⟨its2, rv2, p2, _⟩ := I.list (e0.seq hb)
    have q1 := rv.length
    refine codeAny_builtin F.entry_extend_loop ?_
    rw [Around.under_plainId F.plain_extend_loop _]
    show wpAny _ A.in1 (pyNext (.ref z) >>= _) _ _ s
    refine wpAny_bind (st.done (A := A.in1) hA D p1.isList p2.isList (.inl (by simp; omega)) fun h' kk => ?_)
    refine wpAny_pure (fin _ H ts (I.turnedL (t' := s.toks) (ch := [z, TI, TO, i1, i2]) kk hf) e0 hSl ?_)
    rw [List.take_of_length_le (by rw [List.length_zip]; omega)] at pr
    exact pr
  | succ m ih =>
    intro k s H ts hm hk I hf e0 hSl pr st
    obtain ⟨its, rv, p1, _⟩ := I.list (e0.seq ha)
    obtain ⟨its2, rv2, p2, _⟩ := I.list (e0.seq hb)
    have q1 := rv.length
    have q2 := rv2.length
    have hx : xs[k]? = some (xs[k]'(by omega)) := List.getElem?_eq_getElem (by omega)
    have hy : ys[k]? = some (ys[k]'(by omega)) := List.getElem?_eq_getElem (by omega)
    generalize xs[k]'(by omega) = x at hx
    generalize ys[k]'(by omega) = y at hy
    obtain ⟨u, hu, ru⟩ := rv.get hx
    obtain ⟨u2, hu2, ru2⟩ := rv2.get hy
    refine codeAny_builtin F.entry_extend_loop ?_
    rw [Around.under_plainId F.plain_extend_loop _]
    show wpAny _ A.in1 (pyNext (.ref z) >>= _) _ _ s
    refine wpAny_bind (st.item (A := A.in1) D p1.isList p2.isList (x := u) (y := u2) (by simpa using hu) (by simpa using hu2) fun h' st' hT kk => ?_)
    have hTn : H s.heap.objs.size = none := I.hok.fresh (Nat.le_refl _)
    have new : ObjOk X.prog X.w (upd H s.heap.objs.size (.tup [x, y])) h' s.heap.objs.size (.tup [x, y]) :=
      ⟨by show 2 ≤ sizeLine; decide, [u, u2], .cons ru (.cons ru2 .nil), ⟨_, hT, rfl, _, rfl⟩⟩
    have I1 : Inv X pins σ (upd H s.heap.objs.size (.tup [x, y])) { s with heap := h' } := I.turnedNew (t' := s.toks) (ch := [z, TI, TO, i1, i2]) (fun c o hb q => kk c o hb q) hf (Nat.le_refl _) new
    have nS : S ≠ s.heap.objs.size := ne_of_none hSl hTn
    have hS1 : (upd H s.heap.objs.size (.tup [x, y])) S = some (.lst (ts.map V.ref)) := by rw [upd_ne nS]; exact hSl
    obtain ⟨zl, acc, n, r, hl', e⟩ := I1.lstM hS1
    have lts : ts.length ≤ k := by
      have := paired_len pr
      have h9 : ((xs.zip ys).take k).length ≤ k := List.length_take_le ..
      omega
    show wpAny _ A.in1 (updateSeq S (·.push (.ref s.heap.objs.size)) >>= _) _ _ _
    have lacc : acc.length ≤ k := by rw [← hl', List.length_map]; exact lts
    refine wpAny_bind (wpAny_updateSeq e rfl (wpAny_pure ⟨plainId_quiet F.plain_extend_loop _, ?_⟩) (by rw [List.size_toArray, sizeLine_eq]; omega) (by show (acc.toArray.push _).size ≤ _; rw [Array.size_push, List.size_toArray, sizeLine_eq]; omega))
    have I2 := I1.lset (its' := acc ++ [.ref s.heap.objs.size]) (f := fun x => x.push (.ref s.heap.objs.size)) (ys := ts.map V.ref ++ [V.ref s.heap.objs.size]) (t' := s.toks) hS1 e (by simp) (r.append (.cons (show L2.RelV (V.ref s.heap.objs.size) (Value.ref s.heap.objs.size) from rfl) .nil)) (by rw [List.length_append, List.length_map, List.length_singleton, sizeLine_eq]; omega)
    have lt := st.lt
    have sm : Same H (upd H s.heap.objs.size (.tup [x, y])) := same_upd (Same.refl H) hTn
    have tn : ∀ t p, TupAt H t p → TupAt (upd (upd H s.heap.objs.size (.tup [x, y])) S (.lst (ts.map V.ref ++ [V.ref s.heap.objs.size]))) t p := fun t p ht => by
      show (upd _ S _) t = _
      rw [upd_ne (ne_of (sm _ _ ht) hS1 (by intro z; cases z))]
      exact sm _ _ ht
    refine ih (k + 1) _ _ (ts ++ [s.heap.objs.size]) (by omega) (by omega) I2 (fun c hc => ?_) (same_mut (e0.trans sm) hS0) (by rw [upd_same, List.map_append]; rfl) ?_ ?_
    · obtain ⟨f0, f1⟩ := hf c hc
      refine ⟨?_, f1⟩
      rw [upd_ne (show c ≠ S from fun q => hS (q ▸ hc)), upd_ne (Nat.ne_of_lt (lt c hc))]
      exact f0
    · have hzz : (xs.zip ys)[k]? = some (x, y) := List.getElem?_zip_eq_some.mpr ⟨hx, hy⟩
      rw [take_snoc hzz]
      refine paired_snoc (L2.Paired.mapP pr tn) ?_
      show (upd _ S _) _ = _
      rw [upd_ne nS.symm, upd_same]
    · refine st'.keep (fun c hc o q => ?_) fun c o q => ?_
      · exact (Heap.get?_update_other _ _ (show S ≠ c from fun q' => hS (q' ▸ hc))).trans q
      · by_cases hc : c = S
        · subst hc
          exact ⟨_, Heap.get?_update_self _ e rfl⟩
        · exact ⟨o, (Heap.get?_update_other _ _ (Ne.symm hc)).trans q⟩
def tListZip (K : PySem.W.Frag) (ta : TA) : TE := fun σ H Q => ta σ H fun vs H1 => ∃ (a b : Addr) (xs ys : List V), vs = [.ref a, .ref b] ∧ SqL K H1 a xs ∧ SqL K H1 b ys ∧ xs.length = ys.length ∧ xs.length ≤ 100000 ∧
  ∀ (l : Addr) (H2 : Hp) (ts : List Addr), Same H1 H2 → H1 l = none → H2 l = some (.lst (ts.map V.ref)) → Paired (TupAt H2) ts (xs.zip ys) → Q (.ref l) H2
theorem call_listZip {pins : List (Addr × Obj)} {σ : L2.St} {H : Hp} {s : Shared} {A : Around} {z TI TO i1 i2 a b : Addr} {xs ys : List V} {Q : Value → Shared → Prop} {E : Value → Shared → Prop} (hA : A.handled = none) (D : ZipApart z TI TO i1 i2 a b) (hl : xs.length = ys.length) (hz : xs.length ≤ 100000)
    (ha : SqL X.K H a xs) (hb : SqL X.K H b ys) (I : Inv X pins σ H s) (hf : ∀ c ∈ [z, TI, TO, i1, i2], FpOk X pins H c) (st : ZS s.heap z TI TO i1 i2 a b 0) (zz : IsZip s.heap z TI TO .none)
    (fin : ∀ s' H' ts S, Inv X pins σ H' s' → H S = none → Same H H' → H' S = some (.lst (ts.map V.ref)) → Paired (TupAt H') ts (xs.zip ys) → Q (.ref S) s') :
    wpAny (model X.prog X.w) A (call (.type "list") [.ref z]) Q E s := by
  refine callType_codes (Q₁ := fun obj s₁ => obj = .ref s.heap.objs.size ∧ s₁ = { s with heap := s.heap.push { cls := .type "list", data := .seq #[] } }) F.called_list (F.typeCall_list_1 _) F.entry_list_init
    (code_list_new _ ⟨rfl, rfl⟩) fun obj s₁ h₁ => ?_
  obtain ⟨rfl, rfl⟩ := h₁
  have hSz : s.heap.objs.size ∉ [z, TI, TO, i1, i2] := fun q => Nat.lt_irrefl _ (st.lt _ q)
  have hSn : H s.heap.objs.size = none := I.hok.fresh (Nat.le_refl _)
  have I1 := I.lnew (ys := []) (its := []) (t' := s.toks) .nil (Nat.zero_le _)
  have k1 : ∀ b o, s.heap.get? b = some o → (s.heap.push { cls := .type "list", data := .seq #[] }).get? b = some o := fun b o e => Heap.get?_push_of_some _ e
  have hS : (s.heap.push { cls := .type "list", data := .seq #[] }).get? s.heap.objs.size = some { cls := .type "list", data := .seq #[] } := Heap.get?_push_size _ rfl
  have upk : ∀ {h h' : Heap}, (∀ c o, c ≠ s.heap.objs.size → h.get? c = some o → h'.get? c = some o) → (∃ o, h'.get? s.heap.objs.size = some o) → ZS h z TI TO i1 i2 a b 0 ∧ IsZip h z TI TO .none → ZS h' z TI TO i1 i2 a b 0 ∧ IsZip h' z TI TO .none := fun {h h'} e1 e2 Z =>
    ⟨Z.1.keep (fun c hc o q => e1 c o (fun q' => hSz (q' ▸ hc)) q) fun c o q => by
      by_cases hc : c = s.heap.objs.size
      · subst hc
        exact e2
      · exact ⟨o, e1 c o hc q⟩, e1 z _ (fun q' => hSz (by simp [q'])) Z.2⟩
  have up : ∀ (h : Heap) (f : Obj → Obj) c o, c ≠ s.heap.objs.size → h.get? c = some o → (h.update s.heap.objs.size f).get? c = some o := fun h f c o hc q => (Heap.get?_update_other _ _ (Ne.symm hc)).trans q
  have z1 := upk (fun c o _ q => k1 c o q) ⟨_, hS⟩ ⟨st, zz⟩
  refine ⟨⟨_, hS, rfl⟩, F.args_list_init_2 _ _, ?_⟩
  show wpAny _ A.in1.in1 (do let old ← Builtin.List.listItems (.ref s.heap.objs.size); Builtin.List.listUpdate (.ref s.heap.objs.size) (fun _ => #[]); letGo old.toList.reverse; Builtin.List.listExtendWith (.ref s.heap.objs.size) (.ref z) .none) _ _ _
  refine wpAny_bind ?_
  unfold Builtin.List.listItems
  refine wpAny_bind (wpAny_seqItems hS rfl (wpAny_pure ?_))
  show wpAny _ A.in1.in1 (updateSeq s.heap.objs.size (fun _ => #[]) >>= fun _ => letGo (#[] : Array Value).toList.reverse >>= fun _ => Builtin.List.listExtendWith (.ref s.heap.objs.size) (.ref z) .none) _ _ _
  refine wpAny_bind (wpAny_updateSeq hS rfl ?_)
  have I2 := I1.lset (its := []) (its' := []) (f := fun _ => #[]) (ys := []) (t' := s.toks) upd_same hS rfl .nil (Nat.zero_le _)
  have hS2 := Heap.get?_update_self (Obj.mapSeq (fun _ => (#[] : Array Value))) hS rfl
  have z2 := upk (up _ (Obj.mapSeq (fun _ => (#[] : Array Value)))) ⟨_, hS2⟩ z1
  refine wpAny_bind (wpAny_letGo ?_)
  unfold Builtin.List.listExtendWith
  have zty : ∀ {h : Heap} {s' : Shared}, s'.heap = h → IsZip h z TI TO .none → s'.TypeIs (.ref z) "zip" := fun {h s'} e q => ⟨_, by rw [e]; exact q, rfl⟩
  refine wpAny_bind (wpAny_typeOf (zty (s' := { s with heap := _ }) rfl z2.2) ?_)
  have n1 : Builtin.List.listSameRef (.ref s.heap.objs.size) (.ref z) = false := by
    have : s.heap.objs.size ≠ z := fun q => hSz (by simp [q])
    simp [Builtin.List.listSameRef, this]
  have n2 : (Value.type "zip" == Value.type "list") = false := by decide
  have n3 : (Value.type "zip" == Value.type "tuple") = false := by decide
  simp only [n1, n2, n3, Bool.or_false, Bool.false_eq_true, if_false]
  refine wpAny_bind (wpAny_pyIter_zip (s := { s with heap := _ }) z2.2 ?_)
  refine wpAny_bind (wpAny_holding ?_)
  unfold Builtin.List.listLengthHint
  refine wpAny_bind (wpAny_specialOf (zty (s' := { s with heap := _ }) rfl z2.2) zip_no_len ?_)
  show wpAny _ A.in1.in1 (specialOf (Value.ref z) (Str.ofString "__length_hint__") >>= _) _ _ _
  refine wpAny_bind (wpAny_specialOf (zty (s' := { s with heap := _ }) rfl z2.2) zip_no_hint ?_)
  refine wpAny_pure ?_
  show wpAny _ A.in1.in1 (rule "list.extend.makes-room" >>= fun _ => Builtin.List.listTouch (.ref s.heap.objs.size) >>= fun _ =>
    again (.builtin "list.extend.loop" ⟨[.ref s.heap.objs.size, .ref z, .none], []⟩)) _ _ _
  refine wpAny_bind (wpAny_rule ?_)
  refine wpAny_bind ?_
  show wpAny _ A.in1.in1 (updateSeq s.heap.objs.size (·.push .none) >>= fun _ => updateSeq s.heap.objs.size (·.pop)) _ _ _
  refine wpAny_bind (wpAny_updateSeq hS2 rfl ?_)
  have I3 := I2.lset (its := []) (its' := [Value.none]) (f := fun x => x.push Value.none) (ys := [V.non]) (t' := s.toks) upd_same hS2 rfl (.cons rfl .nil) (by show 1 ≤ sizeLine; decide)
  have hS3 := Heap.get?_update_self (Obj.mapSeq (·.push Value.none)) hS2 rfl
  have z3 := upk (up _ (Obj.mapSeq (·.push Value.none))) ⟨_, hS3⟩ z2
  refine wpAny_updateSeq (hz := by seq_fits) hS3 rfl ?_
  have I4 := I3.lset (its := [Value.none]) (its' := []) (f := fun x => x.pop) (ys := []) (t' := s.toks) upd_same hS3 rfl .nil (Nat.zero_le _)
  have hS4 := Heap.get?_update_self (Obj.mapSeq (·.pop)) hS3 rfl
  have z4 := upk (up _ (Obj.mapSeq (·.pop))) ⟨_, hS4⟩ z3
  refine wpAny_pure ⟨plainId_quiet F.plain_extend_loop _, ?_⟩
  have sm : Same H (upd (upd (upd (upd H s.heap.objs.size (.lst [])) s.heap.objs.size (.lst [])) s.heap.objs.size (.lst [V.non])) s.heap.objs.size (.lst [])) := fun c o q => by
    have hc : c ≠ s.heap.objs.size := ne_of_none q hSn
    rw [upd_ne hc, upd_ne hc, upd_ne hc, upd_ne hc]; exact q
  refine drain_zip (H0 := H) (S := s.heap.objs.size) (A := A.in1) (res := .none) hA D hSz hl hz ha hb hSn (fun s' H' ts J e g pr => ⟨rfl, fin s' H' ts _ J hSn e g pr⟩) _ 0 _ _ [] rfl (Nat.zero_le _) I4 (fun c hc => ?_) sm upd_same .nil z4.1
  obtain ⟨f0, f1⟩ := hf c hc
  refine ⟨?_, f1⟩
  have hc' : c ≠ s.heap.objs.size := fun q => hSz (q ▸ hc)
  rw [upd_ne hc', upd_ne hc', upd_ne hc', upd_ne hc']
  exact f0
theorem pe_listZip {e e2 : Expr} {ta : TA} {p p2 pos pos2 : Pos} (hc : X.calm = true) (hg : Gl X "list") (hm : X.mg "list" = none) (hgz : Gl X "zip") (hmz : X.mg "zip" = none) (ha : PA X [e, e2] ta)
    (na : starEach [Expr.Call (.Name "zip" p2) [e, e2] [] pos2] X.env = (false, eval (Expr.Call (.Name "zip" p2) [e, e2] [] pos2) X.env) :: starEach [] X.env := by rfl)
    (hs : starEach [e, e2] X.env = (false, eval e X.env) :: starEach [e2] X.env := by rfl) (hpl : (backTo pos2 (starEach [e2] X.env)).any (·.1) = false := by rfl) :
    PE X (.Call (.Name "list" p) [.Call (.Name "zip" p2) [e, e2] [] pos2] [] pos) (tListZip X.K ta) := by
  refine ⟨fun pins s σ H Q I h => ?_⟩
  refine Call_ (ld_blt I hg hm boot_list (PyProof.Rows.callWith_type1 (args_cons ?_ na) na))
  refine Call_ (ld_blt I hgz hmz PyProof.Rows.boot_zip (PyProof.Rows.callWith_type1 (thn (ha.run pos2 pins s σ H _ I h) fun us s1 ⟨vs, H1, I1, r1, q1⟩ => ?_) hs hpl))
  obtain ⟨a, b, xs, ys, ex, hqx, hqy, hl, hz, q⟩ := q1
  subst ex
  cases r1 with
  | cons r rr =>
    cases rr with
    | cons r' rr =>
      cases rr
      cases r
      cases r'
      have fresh5 : ∀ c, c ∈ [s1.heap.objs.size + 4, s1.heap.objs.size + 2, s1.heap.objs.size + 3, s1.heap.objs.size, s1.heap.objs.size + 1] → FpOk X pins H1 c := fun c hcm => by
        have e' : c = s1.heap.objs.size + 4 ∨ c = s1.heap.objs.size + 2 ∨ c = s1.heap.objs.size + 3 ∨ c = s1.heap.objs.size ∨ c = s1.heap.objs.size + 1 := by simpa using hcm
        have hle : s1.heap.objs.size ≤ c := by
          rcases e' with z | z | z | z | z
          · rw [z]; exact Nat.le_add_right _ _
          · rw [z]; exact Nat.le_add_right _ _
          · rw [z]; exact Nat.le_add_right _ _
          · rw [z]; exact Nat.le_refl _
          · rw [z]; exact Nat.le_add_right _ _
        exact I1.fpOk hle (I1.hok.fresh hle)
      obtain ⟨its, rv, p1, _⟩ := I1.list hqx
      obtain ⟨its2, rv2, p2, _⟩ := I1.list hqy
      refine call_zip_2 p1.isList p2.isList fun h' hz' hTI hTO h1 h2 hsz hk => args_nil ?_
      have I2 : Inv X pins σ H1 { s1 with heap := h' } := I1.kept (t' := s1.toks) hk
      refine call_listZip (I.ok.hd hc) (PySem.W.ktu_apart s1.heap.objs.size a b p1.lt p2.lt) hl hz hqx hqy I2 fresh5 ⟨.inl ⟨hz', _, _, hTO⟩, hTI, h1, h2, ⟨_, hTO⟩⟩ hz' fun s' H' ts S J n e g pr => ?_
      exact ⟨.ref S, H', J, rfl, q S H' ts e n g pr⟩
end
end Fs
namespace Fs
open PySem PySem.Spec PyProof.Rows L2 SlX RZ StX
/-! ### other names, drawn -/
def unRef : V → Addr
  | .ref x => x
  | _ => 0
theorem perm_refs {l : List V} {xs : List Addr} (h : l.Perm (xs.map V.ref)) : ∃ ys : List Addr, l = ys.map V.ref ∧ ys.Perm xs := by
  refine ⟨l.map unRef, ?_, ?_⟩
  · rw [List.map_map]
    conv => lhs; rw [← List.map_id l]
    refine List.map_congr_left fun v hv => ?_
    obtain ⟨x, _, rfl⟩ := List.mem_map.mp (h.mem_iff.mp hv)
    rfl
  · have := h.map unRef
    rw [List.map_map] at this
    have e : xs.map (unRef ∘ V.ref) = xs := by
      conv => rhs; rw [← List.map_id xs]
      rfl
    rw [e] at this
    exact this
theorem perm_paired {α β : Type} {F : α → β → Prop} : ∀ {l l' : List α} {m : List β}, l.Perm l' → Paired F l m → ∃ m', Paired F l' m' ∧ m'.Perm m := by
  intro l l' m h
  induction h generalizing m with
  | nil => intro p; exact ⟨m, p, List.Perm.refl _⟩
  | cons x _ ih =>
    intro p
    cases p with
    | cons r t =>
      obtain ⟨m', h1, h2⟩ := ih t
      exact ⟨_ :: m', .cons r h1, h2.cons _⟩
  | swap x y l =>
    intro p
    cases p with
    | cons r t =>
      cases t with
      | cons r2 t => exact ⟨_, .cons r2 (.cons r t), List.Perm.swap _ _ _⟩
  | trans _ _ ih1 ih2 =>
    intro p
    obtain ⟨m1, h1, g1⟩ := ih1 p
    obtain ⟨m2, h2, g2⟩ := ih2 h1
    exact ⟨m2, h2, g2.trans g1⟩
theorem paired_unmap {α β γ : Type} {F : α → γ → Prop} {g : β → γ} : ∀ {l : List α} {m : List β}, Paired F l (m.map g) → Paired (fun a b => F a (g b)) l m
  | [], [], _ => .nil
  | _ :: _, _ :: _, .cons r t => .cons r (paired_unmap t)
theorem merge_nodup : ∀ {l acc : Parts}, (namesP (acc ++ l)).Nodup → mergeK (kvsOf acc) (kvsOf l) = kvsOf (acc ++ l)
  | [], acc, _ => by rw [List.append_nil]; rfl
  | p :: l, acc, nd => by
    have hn : ∀ kv ∈ kvsOf acc, kv.1 ≠ (.inr p.1 : Key) := fun kv hkv e => by
      obtain ⟨q, hq, rfl⟩ := List.mem_map.mp hkv
      have e : (Sum.inr q.1 : Key) = Sum.inr p.1 := e
      injection e with e
      have nd' : (namesP acc ++ namesP (p :: l)).Nodup := by
        have := nd
        unfold namesP at this ⊢
        rw [List.map_append] at this
        exact this
      have := List.nodup_append.mp nd'
      exact this.2.2 q.1 (List.mem_map.mpr ⟨q, hq, rfl⟩) p.1 (List.mem_cons_self ..) e
    have h1 : mergeK (kvsOf acc) (kvsOf (p :: l)) = mergeK (putK (kvsOf acc) (.inr p.1) (.str p.2)) (kvsOf l) := rfl
    rw [h1, putK_new' hn]
    have h2 : kvsOf acc ++ [((.inr p.1 : Key), V.str p.2)] = kvsOf (acc ++ [p]) := by unfold kvsOf; rw [List.map_append]; rfl
    rw [h2, merge_nodup (by rw [List.append_assoc]; exact nd), List.append_assoc]; rfl
theorem ren_of {zs : Parts} {ns fs : List Str} (h : zs.Perm (ns.zip fs)) (hl : fs.length = ns.length) (n1 : ns.Nodup) (n2 : fs.Nodup) (nm : ∀ z ∈ fs, nameL (cps z) = true) : Ren zs ns := by
  have e1 : (ns.zip fs).map (·.1) = ns := List.map_fst_zip (by omega)
  have e2 : (ns.zip fs).map (·.2) = fs := List.map_snd_zip (by omega)
  have p1 : (namesP zs).Perm ns := by
    have := h.map (·.1)
    rw [e1] at this
    exact this
  have p2 : (zs.map (·.2)).Perm fs := by
    have := h.map (·.2)
    rw [e2] at this
    exact this
  refine ⟨p1.nodup_iff.mpr n1, ?_, fun n hn => p1.mem_iff.mpr hn, fun p hp => nm _ (p2.mem_iff.mp (List.mem_map.mpr ⟨p, hp, rfl⟩)), p2.nodup_iff.mpr n2⟩
  rw [h.length_eq, List.length_zip]; omega
section
variable {P : Program} {w : World} {K : PySem.W.Frag} {mg : Str → Option Value} {base : Heap} {C SO : Addr}
/-- the names of two parts, a comprehension -/
theorem lc_names89 {H : Hp} {t D : Addr} {σ : L2.St} {v0 v1 v2 v3 v4 v5 v6 v7 : Option V} {ps : Parts} {Qd : Hp → Prop} (hσ : σ = [v0, v1, v2, v3, v4, v5, v6, v7, none, none]) (ht : PartsT H t ps) (hps : ps.length ≤ 1000) (hD : H D = none)
    (q : ∀ H' : Hp, Same H H' → H' D = some (.lst ((namesP ps).map V.str)) → Qd H') :
    ∃ W : Nat → Nat → Hp → Prop, (∃ m, W 0 m (upd H D (.lst []))) ∧ ∀ i m H, W i m H →
      ((Itt K t).stop i H ∧ Qd H) ∨ ((Itt K t).go i H ∧ ∃ Nx : Hp → Prop, (∀ H', Nx H' → ∃ m', m' < m ∧ W (i + 1) m' H') ∧ ∀ x H', (Itt K t).yld i H x H' → gTup K 2 (gCons (gName 8) (gCons (gName 9) gNil)) x (wipe σ [8, 9]) H' fun σ2 H2 => wipe σ2 [8, 9] = wipe σ [8, 9] ∧ tYes σ2 H2 fun b H3 =>
        if b = true then tVar 8 σ2 H3 fun y H4 => ∃ acc, H4 D = some (.lst acc) ∧ acc.length < sizeLine ∧ Nx (upd H4 D (.lst (acc ++ [y]))) else Nx H3) := by
  subst hσ
  obtain ⟨as, et, pr⟩ := ht
  have lp := paired_len pr
  have ln : (namesP ps).length = ps.length := List.length_map ..
  refine lc_tup (K := K) (a := t) (xs := as.map V.ref) (g := gTup K 2 (gCons (gName 8) (gCons (gName 9) gNil))) (tt := tYes) (te := tVar 8) (vs := [8, 9]) (fun i H1 => Same H H1 ∧ H1 D = some (.lst (((namesP ps).take i).map V.str))) ?_ ?_ ?_ ?_
  · exact ⟨same_upd (Same.refl H) hD, upd_same⟩
  · rintro i H1 _ ⟨g, _⟩
    exact SqT.of (g _ _ et)
  · rintro i y H1 hy ⟨g, g1⟩
    rw [List.getElem?_map] at hy
    obtain ⟨p, hp, rfl⟩ := Option.map_eq_some_iff.mp hy
    obtain ⟨⟨m, sg⟩, hm, hpa⟩ := paired_get pr hp
    have hpa1 := g _ _ hpa
    have ht : (namesP ps)[i]? = some m := by unfold namesP; rw [List.getElem?_map, hm]; rfl
    refine ⟨p, _, rfl, SqT.of hpa1, rfl, _, _, rfl, _, _, rfl, rfl, rfl, _, rfl, _, g1, ?_, same_mut g hD, ?_⟩
    · have h9 : ((namesP ps).take i).length ≤ (namesP ps).length := List.length_take_le' ..
      rw [List.length_map, sizeLine_eq]; omega
    · rw [upd_same, take_snoc ht, List.map_append]; rfl
  · rintro H1 ⟨g, g1⟩
    rw [List.length_map, List.take_of_length_le (by omega)] at g1
    exact q H1 g g1
theorem lc_ren10 {H : Hp} {t D d : Addr} {l ps : Parts} {σ : L2.St} {v0 v1 v2 v3 v4 v6 v7 : Option V} {Qd : Hp → Prop} (hσ : σ = [v0, v1, v2, v3, v4, some (.ref d), v6, v7, none, none]) (ht : PartsT H t ps) (hd : H d = some (.dK (kvsOf l))) (hm : ∀ p ∈ ps, p.1 ∈ namesP l) (hps : ps.length ≤ 1000) (hD : H D = none)
    (q : ∀ (H' : Hp) (bs : List Addr), Same H H' → H' D = some (.lst (bs.map V.ref)) → Paired (PairAt H') bs (rnP l ps) → Qd H') :
    ∃ W : Nat → Nat → Hp → Prop, (∃ m, W 0 m (upd H D (.lst []))) ∧ ∀ i m H, W i m H →
      ((Itt K t).stop i H ∧ Qd H) ∨ ((Itt K t).go i H ∧ ∃ Nx : Hp → Prop, (∀ H', Nx H' → ∃ m', m' < m ∧ W (i + 1) m' H') ∧ ∀ x H', (Itt K t).yld i H x H' → gTup K 2 (gCons (gName 8) (gCons (gName 9) gNil)) x (wipe σ [8, 9]) H' fun σ2 H2 => wipe σ2 [8, 9] = wipe σ [8, 9] ∧ tYes σ2 H2 fun b H3 =>
        if b = true then (tTup (tCons (tDGet (tVar 5) (tVar 8)) (tCons (tVar 9) tNil))) σ2 H3 fun y H4 => ∃ acc, H4 D = some (.lst acc) ∧ acc.length < sizeLine ∧ Nx (upd H4 D (.lst (acc ++ [y]))) else Nx H3) := by
  subst hσ
  obtain ⟨as, et, pr⟩ := ht
  have lp := paired_len pr
  have lr : (rnP l ps).length = ps.length := List.length_map ..
  refine lc_tup (K := K) (a := t) (xs := as.map V.ref) (g := gTup K 2 (gCons (gName 8) (gCons (gName 9) gNil))) (tt := tYes) (te := tTup (tCons (tDGet (tVar 5) (tVar 8)) (tCons (tVar 9) tNil))) (vs := [8, 9]) (fun i H1 => Same H H1 ∧ ∃ bs : List Addr, H1 D = some (.lst (bs.map V.ref)) ∧ Paired (PairAt H1) bs ((rnP l ps).take i)) ?_ ?_ ?_ ?_
  · exact ⟨same_upd (Same.refl H) hD, [], upd_same, .nil⟩
  · rintro i H1 _ ⟨g, _⟩
    exact SqT.of (g _ _ et)
  · rintro i y H1 hy ⟨g, bs, g1, g2⟩
    rw [List.getElem?_map] at hy
    obtain ⟨p, hp, rfl⟩ := Option.map_eq_some_iff.mp hy
    obtain ⟨⟨m, sg⟩, hm', hpa⟩ := paired_get pr hp
    have hpa1 := g _ _ hpa
    have hi : i < as.length := (List.getElem?_eq_some_iff.mp hp).1
    have hr : (rnP l ps)[i]? = some (rnN l m, sg) := by unfold rnP; rw [List.getElem?_map, hm']; rfl
    have hv := rn_val (hm _ (List.mem_of_getElem? hm'))
    refine ⟨p, _, rfl, SqT.of hpa1, rfl, _, _, rfl, _, _, rfl, rfl, rfl, ?_⟩
    refine ⟨_, rfl, _, rfl, d, _, rfl, (by rw [← hv]; exact DGet.k (k := .inr m) (g _ _ hd)), _, rfl, ?_⟩
    refine ⟨by show 2 ≤ sizeLine; decide, fun u hu => ?_⟩
    have e1 := same_upd (o := .tup [V.str (rnN l m), .str sg]) (Same.refl H1) hu
    have k1 : (upd H1 u (.tup [V.str (rnN l m), .str sg])) u = _ := upd_same
    have lb : bs.length ≤ 1000 := by
      have h1 := paired_len g2
      have h3 : ((rnP l ps).take i).length ≤ (rnP l ps).length := List.length_take_le' ..
      omega
    refine ⟨_, e1 _ _ g1, by rw [List.length_map, sizeLine_eq]; omega, same_mut (g.trans e1) hD, bs ++ [u], by rw [upd_same, List.map_append]; rfl, ?_⟩
    rw [take_snoc hr]
    have g1' := e1 _ _ g1
    generalize upd H1 u (.tup [V.str (rnN l m), .str sg]) = H2 at e1 k1 g1'
    have hle : ∀ b o, PairAt H1 b o → PairAt (upd H2 D (.lst (bs.map V.ref ++ [.ref u]))) b o := fun b o hb => by
      show (upd _ D _) b = _
      have hb2 := e1 _ _ hb
      rw [upd_ne (ne_of hb2 g1' (by intro z; cases z))]; exact hb2
    have hu2 : PairAt (upd H2 D (.lst (bs.map V.ref ++ [.ref u]))) u (rnN l m, sg) := by
      show (upd _ D _) u = _
      rw [upd_ne (ne_of k1 g1' (by intro z; cases z))]; exact k1
    exact paired_snoc (L2.Paired.mapP g2 fun b o hb => hle b o hb) hu2
  · rintro H1 ⟨g, bs, g1, g2⟩
    rw [List.length_map, lp, ← lr, List.take_of_length_le (Nat.le_refl _)] at g2
    exact q H1 bs g g1 g2
abbrev s_renamed : Stmt := top 37
theorem sc_renamed : FnScope ["pot", "streams", "record", "names", "fresh", "change", "found", "part", "name", "signs"] ["pot", "streams", "record"] (defScope s_renamed) := ⟨rfl, rfl, rfl, by decide +kernel, rfl, by decide +kernel, by decide +kernel⟩
theorem cal_renamed (T : Bs mg) (Z : Sx K mg C SO) (D : Df K mg "_law_renamed" s_renamed ["pot", "streams", "record"]) (C_choose : Cal P w K mg base 2 "_law_choose" (spChoose K)) (C_shuffled : Cal P w K mg base 2 "_law_shuffled" (spShuf K)) (C_names : Cal P w K mg base 4 "_law_names" spNames) (M_renamed : Mth P w K mg base CX0 C "renamed" 7 (spRnd C)) : Cal P w K mg base 8 "_law_renamed" (spMove C false) := by
  refine D.cal sc_renamed (fun vs H Q E h => ?_) (fun f cdv A outer s H vs Q E hr h => ?_)
  · obtain ⟨a, x, r, ps, qs, rfl, _⟩ := h
    rfl
  · obtain ⟨a, x, r, ps, qs, rfl, hp, b, k, _⟩ := h
    refine ⟨_, pss_cons (ps_setLc (i := 3) (own := [("name", 8), ("signs", 9)]) (te := (tVar 8)) (g := gTup K 2 (gCons (gName 8) (gCons (gName 9) gNil))) rfl sc_renamed.nd rfl rfl (sw_true rfl rfl rfl (by decide +kernel)) (pi_tup (pe_op op_catA (pe_ix ix_list (pv 2) pe_int (fun _ _ => rfl)) (pe_ix ix_list (pv 2) pe_int (fun _ _ => rfl)))) (blkOk_by (N := ["pot", "streams", "record", "names", "fresh", "change", "found", "part", "name", "signs"]) (sc := defScope s_renamed) (by decide +kernel)) (fun _ _ _ _ _ => (pg_tup rfl (pgs_cons (pg_name (i := 8) sc_renamed.nd rfl (Or.inl rfl)) (pgs_cons (pg_name (i := 9) sc_renamed.nd rfl (Or.inl rfl)) pgs_nil)))) (fun _ _ _ _ _ => pts_nil) (fun _ _ _ _ _ => (pv 8)))
      (pss_cons (ps_set (i := 4) sc_renamed.nd rfl (.inl rfl) (pc C_choose hr (pa_cons (pv 0) (pa_cons (pe_lstN (pa_cons (pc C_names hr (pa_cons (pv 0) (pa_cons (pb call_len3 T.z_len (pa_cons (pv 3) pa_nil)) pa_nil))) (pa_cons (pc C_shuffled hr (pa_cons (pv 0) (pa_cons (pv 3) pa_nil))) pa_nil))) pa_nil))))
      (pss_cons (ps_set (i := 5) sc_renamed.nd rfl (.inr rfl) (pt (call_dictP rfl) T.z_dict (pa_cons (pc C_shuffled hr (pa_cons (pv 0) (pa_cons (pe_listZip rfl rfl T.z_list rfl T.z_zip (pa_cons (pv 3) (pa_cons (pv 4) pa_nil))) pa_nil))) pa_nil)))
      (pss_cons (ps_set (i := 6) sc_renamed.nd rfl (.inl rfl) (pe_lstN pa_nil))
      (pss_cons (ps_for PassesOwn.never rfl (pi_list (pv 2)) (pg_name (i := 7) sc_renamed.nd rfl (Or.inl rfl))
        (pss_one (ps_expr (pe_bm PySem.F.plainAttrs_list PySem.F.slot_list_append PySem.F.type_list_append mt_append (pv 6) (pa_cons (pt call_tuple_of T.z_tuple (pa_cons (pe_lc (own := [("name", 8), ("signs", 9)]) (te := (tTup (tCons (tDGet (tVar 5) (tVar 8)) (tCons (tVar 9) tNil)))) (g := gTup K 2 (gCons (gName 8) (gCons (gName 9) gNil))) rfl sc_renamed.nd (pi_tup (pv 7)) (blkOk_by (N := ["pot", "streams", "record", "names", "fresh", "change", "found", "part", "name", "signs"]) (sc := defScope s_renamed) (by decide +kernel)) (fun _ _ _ _ _ => (pg_tup rfl (pgs_cons (pg_name (i := 8) sc_renamed.nd rfl (Or.inl rfl)) (pgs_cons (pg_name (i := 9) sc_renamed.nd rfl (Or.inl rfl)) pgs_nil)))) (fun _ _ _ _ _ => pts_nil) (fun _ _ _ _ _ => (pe_tup (pa_cons (pe_dget (hu_of hr.rm) (pv 5) (pv 8) (fun _ _ => rfl)) (pa_cons (pv 9) pa_nil))))) pa_nil)) pa_nil)))))
      (pss_one (ps_ret (pe_lstN (pa_cons (pe_mthd (E := fun _ => E0) M_renamed Z.sc hr (fun _ => passAt0) (pv 1) (pa_cons (pv 5) pa_nil)) (pa_cons (pv 6) pa_nil))))))))), ?_⟩
    obtain ⟨u1, u2, ua', ub', uc'⟩ := b.rc
    have ua := (hid_le a H) _ _ ua'
    have ub := ub'.le (Tle.of_same (hid_le a H))
    have uc := uc'.le (Tle.of_same (hid_le a H))
    obtain ⟨l1, l3, m3, nd⟩ := b.fine.out
    have nsl : (namesP (ps ++ qs)).length ≤ 6 := by unfold namesP; rw [List.length_map, List.length_append]; omega
    refine ⟨_, rfl, r, _, 0, .ref u1, rfl, rfl, SqL.of ua, rfl, _, rfl, r, _, 1, .ref u2, rfl, rfl, SqL.of ua, rfl, ?_⟩
    refine parts_cat ub uc (by omega) fun c1 H1 e1 hc1 => ?_
    refine ⟨c1, rfl, ⟨_, SqT.of hc1.choose_spec.1⟩, fun D hD => ?_⟩
    refine lc_names89 rfl hc1 (by rw [List.length_append]; omega) hD fun H2 e2 g2 => ?_
    have s1 := Stp.of_same hp e1
    have s2 := s1.trans (Stp.of_same s1.pot e2)
    have Da : D ≠ a := s1.pot.ne hD
    refine ⟨_, rfl, _, rfl, _, rfl, _, _, rfl, Of3.lst g2, a, _, rfl, s2.pot, by omega, by rw [List.length_map]; omega, fun p1 f1 H3 hlen1 nd1 nm1 hp1 h1 s3 => ?_⟩
    have p1a : p1 ≠ a := s2.pot.ne hp1
    have g3 := s3.get g2 Da
    refine ⟨_, rfl, _, rfl, a, _, _, rfl, s3.pot, Of3.lst ((hid_ne Da).trans g3), by rw [List.length_map]; omega, fun p2 l2 H4 perm2 hp2 h2 s4 => ?_⟩
    have p2a : p2 ≠ a := s3.pot.ne hp2
    obtain ⟨f2, rfl, pf2⟩ := perm_strs perm2
    refine ⟨by show 2 ≤ sizeLine; decide, fun dl hdl _ => ?_⟩
    obtain ⟨w5, k5, na5, m5⟩ := nw (o := .lst [V.ref p1, .ref p2]) s4.pot hdl
    generalize upd H4 dl (.lst [V.ref p1, .ref p2]) = H5 at w5 k5 m5
    refine ⟨a, _, _, rfl, w5.pot, Of3.lst ((hid_ne na5).trans k5), by simp, by show 2 ≤ 100000; decide, fun v H6 hv s6 => ?_⟩
    have s56 := w5.trans s6
    have s46 := s4.trans s56
    have s06 := (s2.trans s3).trans s46
    obtain ⟨fr, fs, rfl, hfr, fra, flen, fnd, fnm⟩ : ∃ (fr : Addr) (fs : List Str), v = .ref fr ∧ H6 fr = some (.lst (fs.map V.str)) ∧ fr ≠ a ∧ fs.length = (namesP (ps ++ qs)).length ∧ fs.Nodup ∧ ∀ z ∈ fs, nameL (cps z) = true := by
      rcases List.mem_cons.mp hv with rfl | hv
      · rw [List.length_map] at hlen1
        exact ⟨p1, f1, rfl, s46.get h1 p1a, p1a, by omega, nd1, nm1⟩
      · have hv := List.mem_singleton.mp hv
        subst hv
        refine ⟨p2, f2, rfl, s56.get h2 p2a, p2a, pf2.length_eq, pf2.nodup_iff.mpr nd, fun z hz => ?_⟩
        obtain ⟨q, hq, rfl⟩ := List.mem_map.mp (pf2.mem_iff.mp hz)
        rcases List.mem_append.mp hq with h | h
        · exact (b.fine.o1 q h).1
        · exact (b.fine.o2 q h).1
    have g6 := (s3.trans s46).get g2 Da
    refine ⟨_, rfl, _, rfl, _, rfl, D, fr, _, _, rfl, SqL.of g6, SqL.of hfr, by rw [List.length_map, List.length_map]; omega, by rw [List.length_map]; omega, fun l H7 ts e7 hl7 h7 pr7 => ?_⟩
    have s7 := Stp.of_same s6.pot e7
    have la : l ≠ a := s6.pot.ne hl7
    rw [List.zip_map] at pr7
    have pr7' : Paired (PairAt H7) ts ((namesP (ps ++ qs)).zip fs) := paired_unmap (F := TupAt H7) (g := Prod.map V.str V.str) pr7
    have lts := paired_len pr7'
    rw [List.length_zip] at lts
    refine ⟨a, _, _, rfl, s7.pot, Of3.lst ((hid_ne la).trans h7), by rw [List.length_map]; omega, fun p8 l8 H8 perm8 hp8 h8 s8 => ?_⟩
    obtain ⟨ts8, rfl, pt8⟩ := perm_refs perm8
    have pr7h : Paired (PairAt (hid a H7)) ts ((namesP (ps ++ qs)).zip fs) := L2.Paired.mapP pr7' fun _ _ q => keep_hid s7.pot (fun m e => by cases e) q
    have pr8h : Paired (PairAt H8) ts ((namesP (ps ++ qs)).zip fs) := L2.Paired.mapP pr7h fun _ _ q => (hid_le a H8) _ _ (s8.same _ _ q)
    obtain ⟨zs, pr8, pz⟩ := perm_paired pt8.symm pr8h
    have R : Ren zs (namesP (ps ++ qs)) := ren_of pz flen nd fnd fnm
    have pk : Paired (fun p kv => SqT K H8 p [kV kv.1, kv.2]) ts8 (kvsOf zs) := by
      have : ∀ {l : List Addr} {m : Parts}, Paired (PairAt H8) l m → Paired (fun p (kv : Key × V) => SqT K H8 p [kV kv.1, kv.2]) l (kvsOf m) := fun {l m} h => by
        unfold kvsOf
        induction h with
        | nil => exact .nil
        | cons r _ ih => exact .cons (SqT.of r) ih
      exact this pr8
    refine ⟨p8, ts8, kvsOf zs, rfl, SqL.of h8, pk, fun d hd => ?_⟩
    have em : mergeK [] (kvsOf zs) = kvsOf zs := merge_nodup (acc := []) R.kn
    rw [em]
    have s68 := s7.trans s8
    obtain ⟨w9, k9, na9, m9⟩ := nw (o := .dK (kvsOf zs)) s8.pot hd
    generalize upd H8 d (.dK (kvsOf zs)) = H9 at w9 k9 m9
    have s09 := (s06.trans s68).trans w9
    have b9 := b.le s09
    obtain ⟨y1, y2, ya', yb', yc'⟩ := b9.rc
    have ya := (hid_le a H9) _ _ ya'
    have yb := yb'.le (Tle.of_same (hid_le a H9))
    have yc := yc'.le (Tle.of_same (hid_le a H9))
    refine ⟨by show 0 ≤ sizeLine; decide, fun fo hfo _ => ?_⟩
    have foa : fo ≠ a := s09.pot.ne hfo
    have em1 : ∀ p ∈ ps, p.1 ∈ namesP zs := fun p hp => R.me _ (List.mem_map.mpr ⟨p, List.mem_append_left _ hp, rfl⟩)
    have em2 : ∀ p ∈ qs, p.1 ∈ namesP zs := fun p hp => R.me _ (List.mem_map.mpr ⟨p, List.mem_append_right _ hp, rfl⟩)
    have ya10 : (upd H9 fo (.lst [])) r = _ := (same_upd (Same.refl H9) hfo) _ _ ya
    refine ⟨_, rfl, r, rfl, ⟨_, SqL.of ya10⟩, for_list (K := K) (a := r) (xs := [V.ref y1, .ref y2]) (fun i σ H' => ∃ v7 : Option V, σ = [some (.ref a), some (.ref x), some (.ref r), some (.ref D), some (.ref fr), some (.ref d), some (.ref fo), v7, none, none] ∧ Same H9 H' ∧ ∃ ts : List Addr, H' fo = some (.lst (ts.map V.ref)) ∧ Paired (PartsT H') ts (([ps, qs].take i).map (rnP zs))) ?_ ?_ ?_ ?_⟩
    · exact ⟨_, rfl, same_upd (Same.refl H9) hfo, [], upd_same, .nil⟩
    · rintro i σ H' _ ⟨_, _, g, _⟩
      exact SqL.of (g _ _ ya)
    · rintro i y σ H' hy ⟨v7, rfl, g, ts', g1, gp⟩
      obtain ⟨ui, pi, rfl, hui, lpi, hpi, hmi⟩ : ∃ ui pi, y = .ref ui ∧ PartsT H9 ui pi ∧ pi.length ≤ 3 ∧ [ps, qs][i]? = some pi ∧ ∀ p ∈ pi, p.1 ∈ namesP zs := by
        match i, hy with
        | 0, hy => cases hy; exact ⟨y1, ps, rfl, yb, l3, rfl, em1⟩
        | 1, hy => cases hy; exact ⟨y2, qs, rfl, yc, m3, rfl, em2⟩
        | i + 2, hy => simp at hy
      have hui' := hui.le (Tle.of_same g)
      refine ⟨_, rfl, .inl ⟨rfl, _, SqL.of g1⟩, _, rfl, ui, rfl, ⟨_, SqT.of hui'.choose_spec.1⟩, fun D2 hD2 => ?_⟩
      refine lc_ren10 rfl hui' (g _ _ k9) hmi (by omega) hD2 fun H11 bs e11 g3 g4 => ?_
      refine ⟨D2, _, rfl, .inl ⟨SqL.of g3, fun u hu => ?_⟩⟩
      have e12 := same_upd (o := .tup (bs.map V.ref)) (Same.refl H11) hu
      have k12 : (upd H11 u (.tup (bs.map V.ref))) u = _ := upd_same
      generalize upd H11 u (.tup (bs.map V.ref)) = H12 at e12 k12
      have eg := e11.trans e12
      have g112 := eg _ _ g1
      have lts : ts'.length ≤ 2 := by
        have h1 := paired_len gp
        rw [List.length_map] at h1
        have h2 : ([ps, qs].take i).length ≤ 2 := List.length_take_le' ..
        omega
      refine ⟨fo, _, _, rfl, rfl, g112, by rw [List.length_map, sizeLine_eq]; omega, ?_⟩
      refine ⟨_, rfl, same_mut (g.trans eg) hfo, ts' ++ [u], by rw [upd_same, List.map_append]; rfl, ?_⟩
      rw [take_snoc hpi, List.map_append]
      refine paired_snoc (L2.Paired.mapP gp fun t p ht => parts_nl g112 (ht.le (Tle.of_same eg))) ?_
      exact parts_nl g112 ⟨bs, k12, pairs_le (Tle.of_same e12) g4⟩
    · rintro σ H' ⟨v7, rfl, g, ts', g1, gp⟩
      have gp : Paired (PartsT H') ts' [rnP zs ps, rnP zs qs] := gp
      match ts', gp, g1 with
      | [c1, c2], .cons q1 (.cons q2 .nil), g1 =>
        have s' := s09.trans (Stp.of_same s09.pot g)
        have b' := b.le s'
        obtain ⟨stx, _⟩ := b'.at
        obtain ⟨dx, _, _, _, _, sx, _⟩ := id stx
        refine ⟨_, rfl, x, dx, _, rfl, sx, _, rfl, x, d, ps, qs, zs, rfl, stx, b.fine, g _ _ k9, R, fun z H13 e13 stz => ⟨_, rfl, by show 2 ≤ sizeLine; decide, fun p hp0 _ => ?_⟩⟩
        have s13 := s'.trans (Stp.of_same s'.pot e13)
        obtain ⟨w14, k14, na14, m14⟩ := nw (o := .lst [V.ref z, .ref fo]) s13.pot hp0
        have bb : Both a H13 C z fo (rnP zs ps) (rnP zs qs) := ⟨st_hid s13.pot stz, ⟨c1, c2, (hid_ne foa).trans (e13 _ _ g1), parts_hid s13.pot (q1.le (Tle.of_same e13)), parts_hid s13.pot (q2.le (Tle.of_same e13))⟩, fine_rn b.fine R⟩
        exact k p z fo _ _ _ (s13.trans w14) ((hid_ne na14).trans k14) (bb.le w14)
end
end Fs
namespace Fs
open PySem PySem.Spec PyProof.Rows L2 SlX RZ StX
/-! ### tuples of words, and values that are none -/
def Wd (n : Nat) (us : List Str) (gs : Parts) : Prop := Paired (fun (u : Str) (p : Str × Str) => u.length ≤ n ∧ ∀ c ∈ cps u, c ∈ cps p.2) us gs
theorem areW (gs : Parts) (ds : List PyData) : areWordsD gs (.tuple ds) = (decide (ds.length = gs.length) && (gs.zip ds).all fun p => isWordD p.1.2 p.2) := rfl
theorem wd_all {n : Nat} : ∀ {us : List Str} {gs : Parts}, Wd n us gs → ((gs.zip (us.map PyData.str)).all fun p => isWordD p.1.2 p.2) = true
  | [], [], _ => rfl
  | u :: us, p :: gs, .cons r t => by
    have i := wd_all t
    show (isWordD p.2 (.str u) && _) = true
    have h1 : isWordD p.2 (.str u) = true := List.all_eq_true.mpr fun c hc => decide_eq_true (r.2 c hc)
    rw [h1, Bool.true_and]
    exact i
theorem Wd.words {n : Nat} {us : List Str} {gs : Parts} (h : Wd n us gs) : areWordsD gs (.tuple (us.map .str)) = true := by
  rw [areW, List.length_map, decide_eq_true (paired_len h), Bool.true_and]
  exact wd_all h
theorem Wd.tok {n : Nat} : ∀ {us : List Str} {gs : Parts}, Wd n us gs → okP gs → n ≤ 9000 → ∀ z ∈ us, TOk z
  | _, _, .nil, _, _, z, hz => nomatch hz
  | u :: us, p :: gs, .cons r t, ok, hn, z, hz => by
    rcases List.mem_cons.mp hz with rfl | hz
    · have l2 := lo_signs (ok p (List.mem_cons_self ..)).2
      exact Lo.tok (n := n) ⟨r.1, fun c hc => l2.cod c (r.2 c hc)⟩ hn
    · exact Wd.tok t (fun q hq => ok q (List.mem_cons_of_mem _ hq)) hn z hz
theorem Wd.len {n : Nat} : ∀ {us : List Str} {gs : Parts}, Wd n us gs → ∀ z ∈ us, z.length ≤ n
  | _, _, .nil, z, hz => nomatch hz
  | u :: us, p :: gs, .cons r t, z, hz => by
    rcases List.mem_cons.mp hz with rfl | hz
    · exact r.1
    · exact Wd.len t z hz
theorem Wd.low {n : Nat} : ∀ {us : List Str} {gs : Parts}, Wd n us gs → okP gs → ∀ z ∈ us, Lo n z
  | _, _, .nil, _, z, hz => nomatch hz
  | u :: us, p :: gs, .cons r t, ok, z, hz => by
    rcases List.mem_cons.mp hz with rfl | hz
    · have l2 := lo_signs (ok p (List.mem_cons_self ..)).2
      exact ⟨r.1, fun c hc => l2.cod c (r.2 c hc)⟩
    · exact Wd.low t (fun q hq => ok q (List.mem_cons_of_mem _ hq)) z hz
theorem Wd.mono {n m : Nat} (h : n ≤ m) : ∀ {us : List Str} {gs : Parts}, Wd n us gs → Wd m us gs
  | _, _, .nil => .nil
  | _ :: _, _ :: _, .cons r t => .cons ⟨Nat.le_trans r.1 h, r.2⟩ (Wd.mono h t)
/-- a value that is no tuple of words -/
def Bad (H : Hp) (gs : Parts) (v : V) : Prop := ∃ d, Dx H v d ∧ areWordsD gs d = false
theorem Bad.le {H H' : Hp} {gs : Parts} {v : V} (e : Same H H') (h : Bad H gs v) : Bad H' gs v := by
  obtain ⟨d, h1, h2⟩ := h
  exact ⟨d, h1.le e, h2⟩
theorem bad_len {gs : Parts} {ds : List PyData} (h : ds.length ≠ gs.length) : areWordsD gs (.tuple ds) = false := by
  rw [areW, decide_eq_false h, Bool.false_and]
theorem bad_first {p : Str × Str} {gs : Parts} {d : PyData} {ds : List PyData} (h : isWordD p.2 d = false) : areWordsD (p :: gs) (.tuple (d :: ds)) = false := by
  rw [areW]
  show (_ && (isWordD p.2 d && _)) = false
  rw [h, Bool.false_and, Bool.and_false]
theorem bad_last {d : PyData} (hd : ∀ sg, isWordD sg d = false) : ∀ {gs : Parts} {ds : List PyData}, gs.length = ds.length + 1 → ((gs.zip (ds ++ [d])).all fun p => isWordD p.1.2 p.2) = false
  | [p], [], _ => by
    show (isWordD p.2 d && _) = false
    rw [hd, Bool.false_and]
  | p :: q :: gs, e :: ds, h => by
    have i := bad_last hd (gs := q :: gs) (ds := ds) (by simpa using h)
    have e2 : (((p :: q :: gs).zip ((e :: ds) ++ [d])).all fun p => isWordD p.1.2 p.2) = (isWordD p.2 e && (((q :: gs).zip (ds ++ [d])).all fun p => isWordD p.1.2 p.2)) := rfl
    rw [e2, i, Bool.and_false]
theorem word_not {sg z : Str} {c : Nat} (h : c ∈ cps z) (n : c ∉ cps sg) : isWordD sg (.str z) = false := by
  show (cps z).all _ = false
  refine List.all_eq_false.mpr ⟨c, h, ?_⟩
  simpa using n
theorem Bad.dict {H : Hp} {gs : Parts} {p : Addr} (h : H p = some (.dK [])) : Bad H gs (.ref p) := ⟨_, .dct h .nil, rfl⟩
theorem Bad.list {H : Hp} {gs : Parts} {p : Addr} {us : List Str} (h : H p = some (.lst (us.map V.str))) (n : p ≠ sysModules) (tk : ∀ z ∈ us, TOk z) : Bad H gs (.ref p) := ⟨_, .lst h n (dx_words tk), rfl⟩
theorem Bad.zero {H : Hp} {gs : Parts} : Bad H gs (.int 0) := ⟨_, .int 0 (by decide +kernel) (by decide +kernel), rfl⟩
theorem Bad.a {H : Hp} {gs : Parts} : Bad H gs (.str "a") := ⟨_, .str _ (Lo.tok (n := 1) ⟨by decide +kernel, by decide +kernel⟩ (by decide)), rfl⟩
theorem Bad.tup {H : Hp} {gs : Parts} {p : Addr} {xs : List V} {ds : List PyData} (h : H p = some (.tup xs)) (hx : DxAll H xs ds) (b : areWordsD gs (.tuple ds) = false) : Bad H gs (.ref p) := ⟨_, .tup h hx, b⟩
theorem words_can {n : Nat} : ∀ us : List Str, (∀ z ∈ us, Lo n z) → PyData.canLayAll0 (us.map PyData.str) = true ∧ PyData.depthAll (us.map PyData.str) = 0
  | [], _ => ⟨by simp only [List.map_nil, PyData.canLayAll0], by simp only [List.map_nil, PyData.depthAll]⟩
  | z :: us, h => by
    obtain ⟨i, j⟩ := words_can us fun y hy => h y (List.mem_cons_of_mem _ hy)
    exact ⟨by simp only [List.map_cons, PyData.canLayAll0, PyData.canLay0, i, strOk_lo (h z (List.mem_cons_self ..)), Bool.and_self], by simp only [List.map_cons, PyData.depthAll, PyData.depth, j]; omega⟩
theorem words_shaped {n : Nat} {us : List Str} (h : ∀ z ∈ us, Lo n z) : SeqAt.shaped (.tuple (us.map PyData.str)) = true := by
  obtain ⟨i, j⟩ := words_can us h
  unfold SeqAt.shaped
  have h2 : PyData.depth (.tuple (us.map PyData.str)) ≤ 1 := by simp only [PyData.depth, j]; omega
  rw [decide_eq_true (by omega), Bool.and_true]
  simp only [PyData.canLay0, i]
theorem words_eqv (us : List Str) : PyData.eqv (.tuple (us.map PyData.str)) (.tuple []) = decide (us = []) := by
  cases us with
  | nil => simp [PyData.eqv, PyData.eqvAll]
  | cons z us => simp [PyData.eqv, PyData.eqvAll]
theorem mul_mem {z : Str} {k : Int} {c : Nat} (hc : c ∈ cps (Txt.mul z k)) : c ∈ cps z := by
  unfold Txt.mul at hc
  split at hc
  · cases hc
  · split at hc
    · exact hc
    · rcases foldl_rep z.cps _ _ c hc with h | h
      · cases h
      · exact h
def abc : Str := "abcdefghijklmnopqrstuvwxyz"
theorem stranger {l : List Nat} (h : l.length ≤ 12) : ∃ c r, (cps abc).filter (fun c => decide (c ∉ l)) = c :: r ∧ c ∈ cps abc ∧ c ∉ l := by
  cases q : (cps abc).filter fun c => decide (c ∉ l) with
  | cons c r =>
    have : c ∈ (cps abc).filter fun c => decide (c ∉ l) := by rw [q]; exact List.mem_cons_self ..
    rw [List.mem_filter] at this
    exact ⟨c, r, rfl, this.1, by simpa using this.2⟩
  | nil =>
    have hall : ∀ y ∈ cps abc, y ∈ l := fun y hy => by
      have := List.filter_eq_nil_iff.mp q y hy
      simpa using this
    have := pigeon (by decide +kernel : (cps abc).Nodup) hall
    have h7 : (cps abc).length = 26 := by decide +kernel
    omega
theorem flat_len : ∀ {gs : Parts}, okP gs → ((gs.map (·.2)).map cps).flatten.length ≤ 4 * gs.length
  | [], _ => Nat.le_refl _
  | p :: gs, ok => by
    have i := flat_len (gs := gs) fun q hq => ok q (List.mem_cons_of_mem _ hq)
    have h := (ok p (List.mem_cons_self ..)).2
    unfold signsL at h
    simp only [Bool.and_eq_true, decide_eq_true_eq] at h
    rw [List.map_cons, List.map_cons, List.flatten_cons, List.length_append, List.length_cons]
    have := h.1.1.2
    omega
theorem flat_mem {gs : Parts} {p : Str × Str} {c : Nat} (hp : p ∈ gs) (hc : c ∈ cps p.2) : c ∈ ((gs.map (·.2)).map cps).flatten :=
  List.mem_flatten.mpr ⟨cps p.2, List.mem_map.mpr ⟨p.2, List.mem_map.mpr ⟨p, hp, rfl⟩, rfl⟩, hc⟩
theorem filtc_snoc {ns : List Nat} {l : List Nat} {i : Nat} {z : Nat} (h : l[i]? = some z) : (l.take (i + 1)).filter (fun z => decide (z ∉ ns)) = (l.take i).filter (fun z => decide (z ∉ ns)) ++ (if z ∈ ns then [] else [z]) := by
  rw [take_snoc h, List.filter_append]
  by_cases c : z ∈ ns
  · simp [c]
  · simp [c]
section
variable {K : PySem.W.Frag}
/-- drawn words of a part -/
theorem lc_words {H : Hp} {a t D : Addr} {gs : Parts} {σ : L2.St} {v1 v2 v3 v4 v5 v6 v7 v9 v10 v11 v12 v13 v15 v16 v17 : Option V} {Qd : Hp → Prop} (hσ : σ = [some (.ref a), v1, v2, v3, v4, v5, v6, v7, none, v9, v10, v11, v12, v13, none, v15, v16, v17]) (hp : Pot H a) (ht : PartsT (hid a H) t gs) (ok : okP gs) (hgs : gs.length ≤ 3) (hD : H D = none)
    (q : ∀ (H' : Hp) (us : List Str), Stp a H H' → H' D = some (.lst (us.map V.str)) → Wd 6 us gs → Qd H') :
    ∃ W : Nat → Nat → Hp → Prop, (∃ m, W 0 m (upd H D (.lst []))) ∧ ∀ i m H, W i m H →
      ((Itt K t).stop i H ∧ Qd H) ∨ ((Itt K t).go i H ∧ ∃ Nx : Hp → Prop, (∀ H', Nx H' → ∃ m', m' < m ∧ W (i + 1) m' H') ∧ ∀ x H', (Itt K t).yld i H x H' → gTup K 2 (gCons (gName 14) (gCons (gName 8) gNil)) x (wipe σ [14, 8]) H' fun σ2 H2 => wipe σ2 [14, 8] = wipe σ [14, 8] ∧ tYes σ2 H2 fun b H3 =>
        if b = true then (tCallS spLWord (fun _ => E0) (tCons (tVar 0) (tCons (tVar 8) (tCons (tC (.int 6)) tNil)))) σ2 H3 fun y H4 => ∃ acc, H4 D = some (.lst acc) ∧ acc.length < sizeLine ∧ Nx (upd H4 D (.lst (acc ++ [y]))) else Nx H3) := by
  subst hσ
  have Da : D ≠ a := hp.ne hD
  obtain ⟨as, et, pr⟩ := ht
  have lp := paired_len pr
  refine lc_tup (K := K) (a := t) (xs := as.map V.ref) (g := gTup K 2 (gCons (gName 14) (gCons (gName 8) gNil))) (tt := tYes) (te := tCallS spLWord (fun _ => E0) (tCons (tVar 0) (tCons (tVar 8) (tCons (tC (.int 6)) tNil)))) (vs := [14, 8]) (fun i H1 => Stp a H H1 ∧ ∃ us : List Str, H1 D = some (.lst (us.map V.str)) ∧ Wd 6 us (gs.take i)) ?_ ?_ ?_ ?_
  · exact ⟨(Stp.refl hp).new hD, [], upd_same, .nil⟩
  · rintro i H1 _ ⟨s, _⟩
    exact SqT.of ((hid_le a H1) _ _ (s.same _ _ et))
  · rintro i y H1 hy ⟨s, us, g1, g2⟩
    rw [List.getElem?_map] at hy
    obtain ⟨p, hpp, rfl⟩ := Option.map_eq_some_iff.mp hy
    obtain ⟨⟨m, sg⟩, hm, hpa⟩ := paired_get pr hpp
    have hpa1 := (hid_le a H1) _ _ (s.same _ _ hpa)
    have lus : us.length ≤ 3 := by
      have h1 := paired_len g2
      have h2 : (gs.take i).length ≤ gs.length := List.length_take_le' ..
      omega
    refine ⟨p, _, rfl, SqT.of hpa1, rfl, _, _, rfl, _, _, rfl, rfl, rfl, ?_⟩
    refine ⟨_, rfl, _, rfl, a, sg, 6, rfl, s.pot, (ok _ (List.mem_of_getElem? hm)).2, by decide, fun x H2 lx cx s2 => ?_⟩
    refine ⟨_, s2.get g1 Da, by rw [List.length_map, sizeLine_eq]; omega, (s.trans s2).mut hD Da, us ++ [x], by rw [upd_same, List.map_append]; rfl, ?_⟩
    rw [take_snoc hm]
    exact paired_snoc g2 ⟨lx, cx⟩
  · rintro H1 ⟨s, us, g1, g2⟩
    rw [List.length_map, lp, List.take_of_length_le (Nat.le_refl _)] at g2
    exact q H1 us s g1 g2
/-- the lengths of words -/
theorem lc_lens {H : Hp} {t D : Addr} {us : List Str} {σ : L2.St} {v0 v1 v2 v3 v4 v5 v6 v7 v8 v9 v10 v11 v12 v13 v14 v16 v17 : Option V} {Qd : Hp → Prop} (hσ : σ = [v0, v1, v2, v3, v4, v5, v6, v7, v8, v9, v10, v11, v12, v13, v14, none, v16, v17]) (ht : H t = some (.tup (us.map V.str))) (hz : ∀ z ∈ us, z.length ≤ 9000) (hus : us.length ≤ 1000) (hD : H D = none)
    (q : ∀ H' : Hp, Same H H' → H' D = some (.lst (us.map fun z => V.int ((z.length : Nat) : Int))) → Qd H') :
    ∃ W : Nat → Nat → Hp → Prop, (∃ m, W 0 m (upd H D (.lst []))) ∧ ∀ i m H, W i m H →
      ((Itt K t).stop i H ∧ Qd H) ∨ ((Itt K t).go i H ∧ ∃ Nx : Hp → Prop, (∀ H', Nx H' → ∃ m', m' < m ∧ W (i + 1) m' H') ∧ ∀ x H', (Itt K t).yld i H x H' → gName 15 x (wipe σ [15]) H' fun σ2 H2 => wipe σ2 [15] = wipe σ [15] ∧ tYes σ2 H2 fun b H3 =>
        if b = true then (tCB (rLen3 K) (tCons (tVar 15) tNil)) σ2 H3 fun y H4 => ∃ acc, H4 D = some (.lst acc) ∧ acc.length < sizeLine ∧ Nx (upd H4 D (.lst (acc ++ [y]))) else Nx H3) := by
  subst hσ
  refine lc_tup (K := K) (a := t) (xs := us.map V.str) (tt := tYes) (te := tCB (rLen3 K) (tCons (tVar 15) tNil)) (vs := [15]) (fun i H4 => Same H H4 ∧ H4 D = some (.lst ((us.take i).map fun z => V.int ((z.length : Nat) : Int)))) ?_ ?_ ?_ ?_
  · exact ⟨same_upd (Same.refl H) hD, upd_same⟩
  · rintro i H4 _ ⟨g1, _⟩
    exact SqT.of (g1 _ _ ht)
  · rintro i y H4 hy ⟨g1, g2⟩
    rw [List.getElem?_map] at hy
    obtain ⟨z, hz', rfl⟩ := Option.map_eq_some_iff.mp hy
    have tz := hz z (List.mem_of_getElem? hz')
    have h9 : (us.take i).length ≤ us.length := List.length_take_le' ..
    refine ⟨rfl, _, rfl, _, _, rfl, Of3.str (by omega), _, g2, by rw [List.length_map, sizeLine_eq]; omega, same_mut g1 hD, ?_⟩
    rw [upd_same, take_snoc hz', List.map_append, List.length_map, ← len_cps]; rfl
  · rintro H4 ⟨g1, g2⟩
    rw [List.length_map, List.take_of_length_le (Nat.le_refl _)] at g2
    exact q H4 g1 g2
/-- the signs of a part -/
theorem lc_sgs {H : Hp} {t D : Addr} {gs : Parts} {σ : L2.St} {v0 v1 v2 v3 v4 v5 v6 v7 v8 v9 v10 v11 v12 v13 v14 v15 v17 : Option V} {Qd : Hp → Prop} (hσ : σ = [v0, v1, v2, v3, v4, v5, v6, v7, v8, v9, v10, v11, v12, v13, v14, v15, none, v17]) (ht : PartsT H t gs) (hgs : gs.length ≤ 1000) (hD : H D = none)
    (q : ∀ H' : Hp, Same H H' → H' D = some (.lst ((gs.map (·.2)).map V.str)) → Qd H') :
    ∃ W : Nat → Nat → Hp → Prop, (∃ m, W 0 m (upd H D (.lst []))) ∧ ∀ i m H, W i m H →
      ((Itt K t).stop i H ∧ Qd H) ∨ ((Itt K t).go i H ∧ ∃ Nx : Hp → Prop, (∀ H', Nx H' → ∃ m', m' < m ∧ W (i + 1) m' H') ∧ ∀ x H', (Itt K t).yld i H x H' → gName 16 x (wipe σ [16]) H' fun σ2 H2 => wipe σ2 [16] = wipe σ [16] ∧ tYes σ2 H2 fun b H3 =>
        if b = true then (tOp (rIxT K) (tVar 16) (tC (.int 1))) σ2 H3 fun y H4 => ∃ acc, H4 D = some (.lst acc) ∧ acc.length < sizeLine ∧ Nx (upd H4 D (.lst (acc ++ [y]))) else Nx H3) := by
  subst hσ
  obtain ⟨as, et, pr⟩ := ht
  have lp := paired_len pr
  refine lc_tup (K := K) (a := t) (xs := as.map V.ref) (tt := tYes) (te := tOp (rIxT K) (tVar 16) (tC (.int 1))) (vs := [16]) (fun i H1 => Same H H1 ∧ H1 D = some (.lst (((gs.map (·.2)).take i).map V.str))) ?_ ?_ ?_ ?_
  · exact ⟨same_upd (Same.refl H) hD, upd_same⟩
  · rintro i H1 _ ⟨g, _⟩
    exact SqT.of (g _ _ et)
  · rintro i y H1 hy ⟨g, g1⟩
    rw [List.getElem?_map] at hy
    obtain ⟨p, hp, rfl⟩ := Option.map_eq_some_iff.mp hy
    obtain ⟨⟨m, sg⟩, hm, hpa⟩ := paired_get pr hp
    have hpa1 := g _ _ hpa
    have ht : (gs.map (·.2))[i]? = some sg := by rw [List.getElem?_map, hm]; rfl
    refine ⟨rfl, _, rfl, p, _, 1, .str sg, rfl, rfl, SqT.of hpa1, rfl, _, g1, ?_, same_mut g hD, ?_⟩
    · have h9 : ((gs.map (·.2)).take i).length ≤ (gs.map (·.2)).length := List.length_take_le' ..
      rw [List.length_map] at h9
      rw [List.length_map, sizeLine_eq]; omega
    · rw [upd_same, take_snoc ht, List.map_append]; rfl
  · rintro H1 ⟨g, g1⟩
    rw [List.length_map, List.take_of_length_le (by rw [List.length_map]; omega)] at g1
    exact q H1 g g1
end
end Fs
namespace Fs
open PySem PySem.Spec PyProof.Rows L2 SlX RZ StX
/-! ### values near tuples of words -/
section
variable {K : PySem.W.Frag} {σ : L2.St} {H : Hp} {Q : VK} {a tg : Addr}
theorem cutV_whole1 (x : V) : cutV [x] none (some 1) = [x] := by
  rw [cutV_to _ _ (by decide)]; rfl
theorem low_dx {H : Hp} {us : List Str} (h : ∀ z ∈ us, Lo 306 z) : DxAll H (us.map V.str) (us.map PyData.str) := dx_words fun z hz => (h z hz).tok (by decide)
theorem tup_hid {H : Hp} {a p : Addr} {xs : List V} (hp : Pot H a) (h : H p = some (.tup xs)) : hid a H p = some (.tup xs) := keep_hid hp (fun m e => by cases e) h
/-- (x,) + row[1:], x being no word of the first signs -/
theorem bad_head {T : TE} {z : Str} {us : List Str} {p : Str × Str} {gs : Parts} (hp : Pot H a) (h7 : σ[7]? = some (some (.ref tg))) (ht : hid a H tg = some (.tup ((z :: us).map V.str))) (lo : ∀ y ∈ z :: us, Lo 306 y) (ll : us.length ≤ 100)
    (hT : ∀ Q1 : VK, (∀ v d H', Stp a H H' → Dx (hid a H') v d → isWordD p.2 d = false → Q1 v H') → T σ H Q1) (q : ∀ v H', Stp a H H' → Bad (hid a H') (p :: gs) v → Q v H') :
    tOp (rCatA K) (tTup (tCons T tNil)) (L2.tSl (rSlA K) (tVar 7) (tPart (tC (.int 1))) tNoPart) σ H Q := by
  refine hT _ fun v d H1 s1 hd bw => ?_
  refine ⟨by show 1 ≤ sizeLine; decide, fun q1 hq1 => ?_⟩
  obtain ⟨w2, k2, na2, m2⟩ := nw (o := .tup [v]) s1.pot hq1
  generalize upd H1 q1 (.tup [v]) = H2 at w2 k2 m2
  have s2 := s1.trans w2
  have ht2 := (hid_le a H2) _ _ (s2.same _ _ ht)
  refine ⟨_, h7, _, rfl, ?_⟩
  unfold tNoPart
  refine sl_get ht2 fun t3 H3 e3 h3 => ?_
  rw [cutV_from _ _ (by decide)] at h3
  have h3 : H3 t3 = some (.tup (us.map V.str)) := h3
  refine cat_get (e3 _ _ k2) h3 (by rw [List.length_map, sizeLine_eq]; show 1 + us.length ≤ _; omega) fun t4 H4 e4 h4 => ?_
  have s4 := Stp.of_same s2.pot (e3.trans e4)
  refine q _ H4 (s2.trans s4) (.tup (tup_hid s4.pot h4) (.cons (hd.le (w2.trans s4).same) (low_dx fun y hy => lo y (List.mem_cons_of_mem _ hy))) (bad_first bw))
/-- row[:-1] + (0,) -/
theorem bad_end {us : List Str} {gs : Parts} (hp : Pot H a) (h7 : σ[7]? = some (some (.ref tg))) (ht : hid a H tg = some (.tup (us.map V.str))) (lo : ∀ y ∈ us, Lo 306 y) (ll : us.length ≤ 100) (ne : us ≠ []) (el : gs.length = us.length)
    (q : ∀ v H', Stp a H H' → Bad (hid a H') gs v → Q v H') :
    tOp (rCatA K) (L2.tSl (rSlA K) (tVar 7) tNoPart (tPart (tUn (rU fun i => .int (-i)) (tC (.int 1))))) (tTup (tCons (tC (.int 0)) tNil)) σ H Q := by
  refine ⟨_, h7, ?_⟩
  unfold tNoPart
  refine ⟨1, rfl, -1, rfl, ?_⟩
  refine sl_get ((hid_le a H) _ _ ht) fun t1 H1 e1 h1 => ?_
  have hl : 0 < us.length := List.length_pos_iff.mpr ne
  have ec : cutV (us.map V.str) none (some (-1)) = (us.take (us.length - 1)).map V.str := by
    unfold cutV
    have h0 : HT.sIx (us.map V.str).length 0 none = 0 := rfl
    have h1 : HT.sIx (us.map V.str).length (us.map V.str).length (some (-1)) = us.length - 1 := by
      rw [List.length_map]
      unfold HT.sIx
      simp
      omega
    rw [h0, h1, List.drop_zero, Nat.sub_zero, List.map_take]
  rw [ec] at h1
  refine ⟨by show 1 ≤ sizeLine; decide, fun q2 hq2 => ?_⟩
  have e2 := same_upd (o := .tup [V.int 0]) (Same.refl H1) hq2
  have k2 : (upd H1 q2 (.tup [V.int 0])) q2 = _ := upd_same
  generalize upd H1 q2 (.tup [V.int 0]) = H2 at e2 k2
  refine cat_get (e2 _ _ h1) k2 (by rw [List.length_map, List.length_take, sizeLine_eq]; show _ + 1 ≤ _; omega) fun t3 H3 e3 h3 => ?_
  have s3 := Stp.of_same hp ((e1.trans e2).trans e3)
  have hx : DxAll (hid a H3) ((us.take (us.length - 1)).map V.str ++ [V.int 0]) ((us.take (us.length - 1)).map PyData.str ++ [.int 0]) :=
    DxAll.append (low_dx fun y hy => lo y (List.mem_of_mem_take hy)) (.cons (.int 0 (by decide +kernel) (by decide +kernel)) .nil)
  refine q _ H3 s3 (.tup (tup_hid s3.pot h3) hx ?_)
  rw [areW, bad_last (fun _ => rfl) (by rw [List.length_map, List.length_take]; omega), Bool.and_false]
/-- row + (x,) -/
theorem bad_more {us : List Str} {gs : Parts} {v : V} {d : PyData} (hp : Pot H a) (h7 : σ[7]? = some (some (.ref tg))) (ht : hid a H tg = some (.tup (us.map V.str))) (lo : ∀ y ∈ us, Lo 306 y) (ll : us.length ≤ 100) (el : gs.length = us.length) (hd : ∀ H : Hp, Dx H v d)
    (q : ∀ v H', Stp a H H' → Bad (hid a H') gs v → Q v H') : tOp (rCatA K) (tVar 7) (tTup (tCons (tC v) tNil)) σ H Q := by
  refine ⟨_, h7, ?_⟩
  refine ⟨by show 1 ≤ sizeLine; decide, fun q2 hq2 => ?_⟩
  have e2 := same_upd (o := .tup [v]) (Same.refl H) hq2
  have k2 : (upd H q2 (.tup [v])) q2 = _ := upd_same
  generalize upd H q2 (.tup [v]) = H2 at e2 k2
  refine cat_get (e2 _ _ ((hid_le a H) _ _ ht)) k2 (by rw [List.length_map, sizeLine_eq]; show _ + 1 ≤ _; omega) fun t3 H3 e3 h3 => ?_
  have s3 := Stp.of_same hp (e2.trans e3)
  refine q _ H3 s3 (.tup (tup_hid s3.pot h3) (DxAll.append (low_dx lo) (.cons (hd _) .nil)) (bad_len ?_))
  rw [List.length_append, List.length_map, el]
  show us.length + 1 ≠ us.length
  omega
/-- row[1:] if row != () else ("",) -/
theorem bad_less {us : List Str} {gs : Parts} (hp : Pot H a) (h7 : σ[7]? = some (some (.ref tg))) (ht : hid a H tg = some (.tup (us.map V.str))) (lo : ∀ y ∈ us, Lo 306 y) (ll : us.length ≤ 100) (el : gs.length = us.length)
    (q : ∀ v H', Stp a H H' → Bad (hid a H') gs v → Q v H') :
    tIf (tTest (tOp rNeX (tVar 7) (tTup tNil))) (L2.tSl (rSlA K) (tVar 7) (tPart (tC (.int 1))) tNoPart) (tTup (tCons (tC (.str "")) tNil)) σ H Q := by
  refine ⟨_, h7, by show 0 ≤ sizeLine; decide, fun q1 hq1 => ?_⟩
  obtain ⟨w1, k1, na1, m1⟩ := nw (o := .tup []) hp hq1
  generalize upd H q1 (.tup []) = H1 at w1 k1 m1
  have ht1 := (hid_le a H1) _ _ (w1.same _ _ ht)
  refine ⟨.tuple (us.map .str), .tuple [], .tup ht1 (low_dx lo), .tup k1 .nil, words_shaped lo, words_shaped (n := 0) (us := []) (fun z hz => nomatch hz), _, rfl, ?_⟩
  rw [words_eqv]
  refine ite2 (fun c => ?_) (fun c => ?_)
  · have ne : us ≠ [] := fun e => by rw [e] at c; exact absurd c (by decide)
    refine ⟨_, h7, _, rfl, ?_⟩
    unfold tNoPart
    refine sl_get ht1 fun t3 H3 e3 h3 => ?_
    rw [cutV_from _ _ (by decide)] at h3
    have s3 := Stp.of_same w1.pot e3
    have h3 : H3 t3 = some (.tup ((us.map V.str).drop 1)) := h3
    rw [← List.map_drop] at h3
    refine q _ H3 (w1.trans s3) (.tup (tup_hid s3.pot h3) (low_dx fun y hy => lo y (List.mem_of_mem_drop hy)) (bad_len ?_))
    have := List.length_pos_iff.mpr ne
    rw [List.length_map, List.length_drop, el]; omega
  · have em : us = [] := by
      by_cases e : us = []
      · exact e
      · rw [decide_eq_false e] at c
        exact (c rfl).elim
    refine ⟨by show 1 ≤ sizeLine; decide, fun q2 hq2 => ?_⟩
    obtain ⟨w2, k2, na2, m2⟩ := nw (o := .tup [V.str ""]) w1.pot hq2
    refine q _ _ (w1.trans w2) (.tup ((hid_ne na2).trans k2) (ds := [.str ""]) (.cons (.str _ (Lo.tok (n := 0) ⟨by decide +kernel, by decide +kernel⟩ (by decide))) .nil) (bad_len ?_))
    rw [el, em]
    decide
/-- [sign for sign in letters if sign not in signs][0] -/
theorem pick_strange {sg : Str} {v0 v1 v2 v3 v4 v5 v6 v7 v9 v10 v11 v12 v13 v14 v15 v16 : Option V} {qn : R2} (hq : qn = fun x y H Q => ∃ (c : Nat) (z : Str), x = .str ⟨#[c]⟩ ∧ y = .str z ∧ Q (.bl (!decide (c ∈ z.cps.toList))) H) (hσ : σ = [v0, v1, v2, v3, v4, v5, v6, v7, some (.str sg), v9, v10, v11, v12, v13, v14, v15, v16, none]) (hl : (cps sg).length ≤ 12)
    (q : ∀ (c : Nat) (H' : Hp), Same H H' → c ∈ cps abc → c ∉ cps sg → Q (.str ⟨#[c]⟩) H') :
    tOp (rIxL K) (tLc (iStr (tC (.str "abcdefghijklmnopqrstuvwxyz"))) (gName 17) (tTest (tOp qn (tVar 17) (tVar 8))) (tVar 17) [17]) (tC (.int 0)) σ H Q := by
  subst hσ
  subst hq
  refine ⟨abc, rfl, fun D hD => ?_⟩
  refine lc_it walk_str (fun i H1 => Same H H1 ∧ H1 D = some (.lst ((((cps abc).take i).filter fun c => decide (c ∉ cps sg)).map S1))) ?_ ?_ ?_ ?_
  · exact ⟨same_upd (Same.refl H) hD, upd_same⟩
  · exact fun _ _ _ _ => trivial
  · rintro i x H1 H2 hi ⟨e1, e2⟩ ⟨rfl, c, hc, rfl⟩
    have hc' : (cps abc)[i]? = some c := by rw [← Array.getElem?_toList] at hc; exact hc
    refine ⟨rfl, _, rfl, _, rfl, c, sg, rfl, rfl, _, rfl, ?_⟩
    rw [filtc_snoc hc']
    by_cases m : c ∈ cps sg
    · rw [decide_eq_true (show c ∈ sg.cps.toList from m), if_pos m, List.append_nil]
      exact iteF ⟨e1, e2⟩
    · rw [decide_eq_false (show c ∉ sg.cps.toList from m), if_neg m]
      refine iteT ⟨_, rfl, _, e2, ?_, same_mut e1 hD, by rw [upd_same, List.map_append]; rfl⟩
      have h1 := List.length_filter_le (fun c => decide (c ∉ cps sg)) ((cps abc).take i)
      have h2 : ((cps abc).take i).length ≤ (cps abc).length := List.length_take_le' ..
      have h3 : (cps abc).length = 26 := by decide +kernel
      rw [List.length_map, sizeLine_eq]; omega
  · rintro H1 ⟨e1, e2⟩
    obtain ⟨c, r, h1, h2, h3⟩ := stranger hl
    rw [List.take_of_length_le (by rw [← len_cps]; exact Nat.le_refl _), h1] at e2
    exact ⟨D, _, 0, S1 c, rfl, rfl, SqL.of e2, atI_nat (j := 0) rfl, q c H1 e1 h2 h3⟩
end
end Fs
namespace Fs
open PySem PySem.Spec PyProof.Rows L2 SlX RZ StX
/-! ### words judged -/
def qNotInS : R2 := fun x y H Q => ∃ (c : Nat) (z : Str), x = .str ⟨#[c]⟩ ∧ y = .str z ∧ Q (.bl (!decide (c ∈ z.cps.toList))) H
def forB : Stmt → List Stmt
  | .For _ _ b _ _ => b
  | _ => []
theorem at_heap {P : Hp → Prop} {G G' : Hp} (e : G = G') (h : P G') : P G := e ▸ h
theorem ite_not {b : Bool} {p q : Prop} (h : b = true) (k : q) : if (!b) = true then p else q := by subst h; exact k
theorem shown_tf : PyData.shown (.list [.bool true, .bool false]) = "[True, False]" := by decide +kernel
theorem fit_tf : Fit 100000 30 (.list [.bool true, .bool false]) := ⟨by simp [PyData.weight, PyData.weightAll], by simp [PyData.depth, PyData.depthAll]⟩
section
variable {P : Program} {w : World} {K : PySem.W.Frag} {mg : Str → Option Value} {base : Heap} {C SO : Addr}
abbrev s_words_right : Stmt := top 36
abbrev wr_loop : List Stmt := forB ((defBody s_words_right).getD 5 (.Pass ⟨0, 0, 0, 0⟩))
theorem sc_words_right : FnScope ["pot", "streams", "record", "good", "far", "due", "kind", "row", "signs", "strange", "some", "odd", "told", "part", "name", "word", "pair", "sign"] ["pot", "streams", "record"] (defScope s_words_right) := ⟨rfl, rfl, rfl, by decide +kernel, rfl, by decide +kernel, by decide +kernel⟩
theorem cal_words_right (T : Bs mg) (T_sum : mg "sum" = none) (Z : Sx K mg C SO) (D : Df K mg "_law_words_right" s_words_right ["pot", "streams", "record"]) (C_choose : Cal P w K mg base 2 "_law_choose" (spChoose K)) (C_word : Cal P w K mg base 3 "_law_word" spLWord)
    (M_steps_of : Mth P w K mg base CX0 C "steps_of" 4 (spSteps C)) (M_is_content : Mth P w K mg base CX0 C "is_content" 3 (spTold C fun ps _ => ps)) (M_is_filling : Mth P w K mg base CX0 C "is_filling" 3 (spTold C fun _ qs => qs)) : Cal P w K mg base 9 "_law_words_right" (spWR C) := by
  refine D.cal sc_words_right (fun vs H Q E h => ?_) (fun f cdv A outer s H vs Q E hr h => ?_)
  · obtain ⟨a, x, r, ps, qs, rfl, _⟩ := h
    rfl
  · obtain ⟨a, x, r, ps, qs, rfl, hp, b, k⟩ := h
    obtain ⟨l1, l3, m3, nd⟩ := b.fine.out
    obtain ⟨t2, d2, r2⟩ : ∃ t2 : TS, PSs (cxOf CX0 P w K mg base ["pot", "streams", "record", "good", "far", "due", "kind", "row", "signs", "strange", "some", "odd", "told", "part", "name", "word", "pair", "sign"] "_law_words_right" (defScope s_words_right) f cdv A outer s H E).nox (wr_loop.drop 4) t2 ∧
        ∀ (D' : Ends) (H1 : Hp) (kv : Int) (kd : Nat) (gs : Parts) (us : List Str) (tg so : Addr) (v3 v4 v5 v8 v9 v11 v12 : Option V) (xs : List V), Stp a H H1 → kv = ((kd : Nat) : Int) → (kd = 0 ∧ gs = ps ∨ kd = 1 ∧ gs = qs) → Wd 306 us gs → hid a H1 tg = some (.tup (us.map V.str)) → hid a H1 so = some (.lst xs) → xs ≠ [] → xs.length ≤ 100 →
          (∀ v ∈ xs, Bad (hid a H1) gs v) → (∀ (H2 : Hp) (v11 v12 : Option V), Stp a H1 H2 → D'.nx [some (.ref a), some (.ref x), some (.ref r), v3, v4, v5, some (.int kv), some (.ref tg), v8, v9, some (.ref so), v11, v12, none, none, none, none, none] H2) →
          t2 D' [some (.ref a), some (.ref x), some (.ref r), v3, v4, v5, some (.int kv), some (.ref tg), v8, v9, some (.ref so), v11, v12, none, none, none, none, none] H1 := by
      refine ⟨_, (pss_cons (ps_set (i := 11) sc_words_right.nd rfl (.inl rfl) (pc C_choose hr (pa_cons (pv 0) (pa_cons (pv 10) pa_nil))))
      (pss_cons (ps_set (i := 12) sc_words_right.nd rfl (.inl rfl) (pe_lstN (pa_cons (pe_mthd (E := fun _ => E0) M_is_content Z.sc hr (fun _ => passAt0) (pv 1) (pa_cons (pv 7) pa_nil)) (pa_cons (pe_mthd (E := fun _ => E0) M_is_content Z.sc hr (fun _ => passAt0) (pv 1) (pa_cons (pv 11) pa_nil)) pa_nil))))
      (pss_cons (ps_if (pt_cmpR op_eq (pv 6) pe_int (nomark _))
          (pss_one (ps_set (i := 12) sc_words_right.nd rfl (.inl rfl) (pe_lstN (pa_cons (pe_mthd (E := fun _ => E0) M_is_filling Z.sc hr (fun _ => passAt0) (pv 1) (pa_cons (pv 7) pa_nil)) (pa_cons (pe_mthd (E := fun _ => E0) M_is_filling Z.sc hr (fun _ => passAt0) (pv 1) (pa_cons (pv 11) pa_nil)) pa_nil)))))
          pss_nil)
      (pss_one (ps_if (pt_cmpR op_ne (pb (call_reprD hr) T.z_repr (pa_cons (pv 12) pa_nil)) pe_str (nomark _))
          (pss_one (ps_ret pe_bl))
          pss_nil))))), ?_⟩
      intro D' H1 kv kd gs us tg so v3 v4 v5 v8 v9 v11 v12 xs s1 ekv sel wd htg hso ne lx bad nx
      refine ⟨_, rfl, _, rfl, a, _, xs, rfl, s1.pot, Of3.lst hso, ne, by omega, fun v H2 hv s2 => ?_⟩
      obtain ⟨dv, dx2, bdv⟩ := (bad v hv).le s2.same
      have b2 := b.le (s1.trans s2)
      obtain ⟨stx, _⟩ := b2.at
      obtain ⟨dx, _, _, _, _, sx, _⟩ := id stx
      have okg : okP gs := by
        rcases sel with ⟨_, rfl⟩ | ⟨_, rfl⟩
        · exact b.fine.o1
        · exact b.fine.o2
      have tk := wd.tok okg (by decide)
      have dtg : Dx H2 (.ref tg) (.tuple (us.map .str)) := .tup ((hid_le a H2) _ _ (s2.same _ _ htg)) (dx_words tk)
      have dv2 := dx2.le (hid_le a H2)
      refine ⟨_, rfl, x, dx, _, rfl, sx, _, rfl, x, .ref tg, _, ps, qs, rfl, stx, l3, m3, dtg, fun H3 e3 => ?_⟩
      refine ⟨_, rfl, x, dx, _, rfl, slt_mono sx e3, _, rfl, x, v, dv, ps, qs, rfl, stx.le e3, l3, m3, dv2.le e3, fun H4 e4 => ?_⟩
      have e24 := e3.trans e4
      have s4 := (Stp.of_same s2.pot e24)
      refine ⟨by show 2 ≤ sizeLine; decide, fun tl htl ntl => ?_⟩
      obtain ⟨w5, k5, na5, m5⟩ := nw (o := .lst [V.bl (areWordsD ps (.tuple (us.map .str))), V.bl (areWordsD ps dv)]) s4.pot htl
      generalize upd H4 tl (.lst [V.bl (areWordsD ps (.tuple (us.map .str))), V.bl (areWordsD ps dv)]) = H5 at w5 k5 m5
      have e25 := e24.trans m5
      refine ⟨_, rfl, rfl, _, rfl, ?_⟩
      subst ekv
      rcases sel with ⟨rfl, rfl⟩ | ⟨rfl, rfl⟩
      · refine iteF ?_
        rw [wd.words, bdv] at k5
        refine ⟨_, rfl, tl, _, rfl, .lst k5 ntl (.cons (.bl true) (.cons (.bl false) .nil)), fit_tf, rfl, _, rfl, ?_⟩
        rw [shown_tf]
        refine iteF ?_
        exact nx H5 _ _ ((s2.trans s4).trans w5)
      · refine iteT ?_
        refine ⟨_, rfl, x, dx, _, rfl, slt_mono sx e25, _, rfl, x, .ref tg, _, ps, gs, rfl, stx.le e25, l3, m3, dtg.le e25, fun H6 e6 => ?_⟩
        refine ⟨_, rfl, x, dx, _, rfl, slt_mono sx (e25.trans e6), _, rfl, x, v, dv, ps, gs, rfl, stx.le (e25.trans e6), l3, m3, dv2.le (e25.trans e6), fun H7 e7 => ?_⟩
        have s7 := w5.trans (Stp.of_same w5.pot (e6.trans e7))
        refine ⟨by show 2 ≤ sizeLine; decide, fun tl2 htl2 ntl2 => ?_⟩
        obtain ⟨w8, k8, na8, m8⟩ := nw (o := .lst [V.bl (areWordsD gs (.tuple (us.map .str))), V.bl (areWordsD gs dv)]) s7.pot htl2
        generalize upd H7 tl2 (.lst [V.bl (areWordsD gs (.tuple (us.map .str))), V.bl (areWordsD gs dv)]) = H8 at w8 k8 m8
        rw [wd.words, bdv] at k8
        refine ⟨_, rfl, tl2, _, rfl, .lst k8 ntl2 (.cons (.bl true) (.cons (.bl false) .nil)), fit_tf, rfl, _, rfl, ?_⟩
        rw [shown_tf]
        refine iteF ?_
        exact nx H8 _ _ (((s2.trans s4).trans s7).trans w8)
    refine ⟨_, pss_cons (ps_setLc (i := 3) (own := [("part", 13)]) (te := (tCB (rTupOf K) (tCons (tLc (iTup K (tVar 13)) (gTup K 2 (gCons (gName 14) (gCons (gName 8) gNil))) tYes (tCallS spLWord (fun _ => E0) (tCons (tVar 0) (tCons (tVar 8) (tCons (tC (.int 6)) tNil)))) [14, 8]) tNil))) rfl sc_words_right.nd rfl rfl (sw_true rfl rfl rfl (by decide +kernel)) (pi_list (pv 2)) (blkOk_by (N := ["pot", "streams", "record", "good", "far", "due", "kind", "row", "signs", "strange", "some", "odd", "told", "part", "name", "word", "pair", "sign"]) (sc := defScope s_words_right) (by decide +kernel)) (fun _ _ _ _ _ => (pg_name (i := 13) sc_words_right.nd rfl (Or.inl rfl))) (fun _ _ _ _ _ => pts_nil) (fun _ _ _ _ _ => (pt call_tuple_of T.z_tuple (pa_cons (pe_lc (own := [("name", 14), ("signs", 8)]) (te := (tCallS spLWord (fun _ => E0) (tCons (tVar 0) (tCons (tVar 8) (tCons (tC (.int 6)) tNil))))) (g := gTup K 2 (gCons (gName 14) (gCons (gName 8) gNil))) rfl sc_words_right.nd (pi_tup (pv 13)) (blkOk_by (N := ["pot", "streams", "record", "good", "far", "due", "kind", "row", "signs", "strange", "some", "odd", "told", "part", "name", "word", "pair", "sign"]) (sc := { kind := .function, names := [(".0", .local), ("part", .local), ("tuple", .globalImplicit), ("pot", .cell)], isGenerator := false, isCoroutine := false }) (by decide +kernel)) (fun _ _ _ _ _ => (pg_tup rfl (pgs_cons (pg_name (i := 14) sc_words_right.nd rfl (Or.inl rfl)) (pgs_cons (pg_name (i := 8) sc_words_right.nd rfl (Or.inl rfl)) pgs_nil)))) (fun _ _ _ _ _ => pts_nil) (fun _ _ _ _ _ => (pc C_word hr (pa_cons (pv 0) (pa_cons (pv 8) (pa_cons pe_int pa_nil)))))) pa_nil))))
      (pss_cons (ps_set (i := 4) sc_words_right.nd rfl (.inl rfl) (pc C_choose hr (pa_cons (pv 0) (pa_cons (pe_lstN (pa_cons pe_int (pa_cons pe_int (pa_cons pe_int pa_nil)))) pa_nil))))
      (pss_cons (ps_asg (pe_op op_catA (pe_tup (pa_cons (pe_op op_add_str (pe_ix ix_tup (pe_ix ix_list (pv 3) pe_int (fun _ _ => rfl)) pe_int (fun _ _ => rfl)) (pe_op op_mulS (pe_ix ix_str (pe_ix ix_tup (pe_ix ix_tup (pe_ix ix_list (pv 2) pe_int (fun _ _ => rfl)) pe_int (fun _ _ => rfl)) pe_int (fun _ _ => rfl)) pe_int (fun _ _ => rfl)) (pv 4))) pa_nil)) (pe_slice sl_tupA (pe_ix ix_list (pv 3) pe_int (fun _ _ => rfl)) (po_some pe_int) po_none)) (pg_sub (pv 3) pe_int set_list))
      (pss_cons (ps_set (i := 5) sc_words_right.nd rfl (.inl rfl) (pe_op op_add (pe_op op_add (pb call_len3 T.z_len (pa_cons (pe_ix ix_list (pv 2) pe_int (fun _ _ => rfl)) pa_nil)) (pb (cr_sum rfl) T_sum (pa_cons (pe_lc (own := [("word", 15)]) (te := (tCB (rLen3 K) (tCons (tVar 15) tNil))) rfl sc_words_right.nd (pi_tup (pe_ix ix_list (pv 3) pe_int (fun _ _ => rfl))) (blkOk_by (N := ["pot", "streams", "record", "good", "far", "due", "kind", "row", "signs", "strange", "some", "odd", "told", "part", "name", "word", "pair", "sign"]) (sc := defScope s_words_right) (by decide +kernel)) (fun _ _ _ _ _ => (pg_name (i := 15) sc_words_right.nd rfl (Or.inl rfl))) (fun _ _ _ _ _ => pts_nil) (fun _ _ _ _ _ => (pb call_len3 T.z_len (pa_cons (pv 15) pa_nil)))) pa_nil))) (pb (cr_sum rfl) T_sum (pa_cons (pe_lc (own := [("word", 15)]) (te := (tCB (rLen3 K) (tCons (tVar 15) tNil))) rfl sc_words_right.nd (pi_tup (pe_ix ix_list (pv 3) pe_int (fun _ _ => rfl))) (blkOk_by (N := ["pot", "streams", "record", "good", "far", "due", "kind", "row", "signs", "strange", "some", "odd", "told", "part", "name", "word", "pair", "sign"]) (sc := defScope s_words_right) (by decide +kernel)) (fun _ _ _ _ _ => (pg_name (i := 15) sc_words_right.nd rfl (Or.inl rfl))) (fun _ _ _ _ _ => pts_nil) (fun _ _ _ _ _ => (pb call_len3 T.z_len (pa_cons (pv 15) pa_nil)))) pa_nil))))
      (pss_cons (ps_if (pt_cmpR op_ne (pe_mthd (E := fun _ => E0) M_steps_of Z.sc hr (fun _ => passAt0) (pv 1) (pa_cons (pe_ix ix_list (pv 3) pe_int (fun _ _ => rfl)) (pa_cons (pe_ix ix_list (pv 3) pe_int (fun _ _ => rfl)) pa_nil))) (pv 5) (nomark _))
        (pss_one (ps_ret pe_bl))
        pss_nil)
      (pss_cons (ps_for PassesOwn.never rfl (pi_range1 (by rfl) T.z_range (pa_cons pe_int pa_nil)) (pg_name (i := 6) sc_words_right.nd rfl (Or.inl rfl))
        (pss_cons (ps_asg (pe_tup (pa_cons (pe_ix ix_list (pv 3) (pv 6) (fun _ _ => rfl)) (pa_cons (pe_join pe_str (pe_lc (own := [("pair", 16)]) (te := (tOp (rIxT K) (tVar 16) (tC (.int 1)))) rfl sc_words_right.nd (pi_tup (pe_ix ix_list (pv 2) (pv 6) (fun _ _ => rfl))) (blkOk_by (N := ["pot", "streams", "record", "good", "far", "due", "kind", "row", "signs", "strange", "some", "odd", "told", "part", "name", "word", "pair", "sign"]) (sc := defScope s_words_right) (by decide +kernel)) (fun _ _ _ _ _ => (pg_name (i := 16) sc_words_right.nd rfl (Or.inl rfl))) (fun _ _ _ _ _ => pts_nil) (fun _ _ _ _ _ => (pe_ix ix_tup (pv 16) pe_int (fun _ _ => rfl))))) pa_nil))) (pg_tup rfl (pgs_cons (pg_name (i := 7) sc_words_right.nd rfl (Or.inl rfl)) (pgs_cons (pg_name (i := 8) sc_words_right.nd rfl (Or.inr rfl)) pgs_nil))))
        (pss_cons (ps_set (i := 9) sc_words_right.nd rfl (.inl rfl) (pe_ix ix_list (pe_lc (own := [("sign", 17)]) (te := (tVar 17)) (tt := (tTest (tOp qNotInS (tVar 17) (tVar 8)))) rfl sc_words_right.nd (pi_str pe_str) (blkOk_by (N := ["pot", "streams", "record", "good", "far", "due", "kind", "row", "signs", "strange", "some", "odd", "told", "part", "name", "word", "pair", "sign"]) (sc := defScope s_words_right) (by decide +kernel)) (fun _ _ _ _ _ => (pg_name (i := 17) sc_words_right.nd rfl (Or.inl rfl))) (fun _ _ _ _ _ => (pts_one (pt_cmpR op_notIn_sign (pv 17) (pv 8) (by rfl)))) (fun _ _ _ _ _ => (pv 17))) pe_int (fun _ _ => rfl)))
        (pss_cons (ps_set (i := 10) sc_words_right.nd rfl (.inl rfl) (pe_lstN (pa_cons (pe_op op_catA (pv 7) (pe_tup (pa_cons pe_str pa_nil))) (pa_cons (pe_ifExp (pt_cmpR (op_neX hr.rm.units) (pv 7) (pe_tup pa_nil) (nomark _)) (pe_slice sl_tupA (pv 7) (po_some pe_int) po_none) (pe_tup (pa_cons pe_str pa_nil))) (pa_cons (pt (call_list3N rfl) T.z_list (pa_cons (pv 7) pa_nil)) (pa_cons pe_non (pa_cons pe_int (pa_cons pe_str (pa_cons pe_dnewK (pa_cons (pe_tup (pa_cons (pv 7) pa_nil)) (pa_cons (pe_op op_catA (pv 7) (pe_tup (pa_cons pe_non pa_nil))) (pa_cons pe_bl pa_nil))))))))))))
        (pss_cons (ps_if (pt_cmpR (op_neX hr.rm.units) (pv 7) (pe_tup pa_nil) (nomark _))
          (pss_cons (ps_set (i := 10) sc_words_right.nd rfl (.inl rfl) (pe_op op_cat (pv 10) (pe_lstN (pa_cons (pe_op op_catA (pe_tup (pa_cons (pe_op op_add_str (pe_ix ix_tup (pv 7) pe_int (fun _ _ => rfl)) (pv 9)) pa_nil)) (pe_slice sl_tupA (pv 7) (po_some pe_int) po_none)) (pa_cons (pe_op op_catA (pe_tup (pa_cons pe_non pa_nil)) (pe_slice sl_tupA (pv 7) (po_some pe_int) po_none)) (pa_cons (pe_op op_catA (pe_tup (pa_cons (pe_slice sl_tupA (pv 7) po_none (po_some pe_int)) pa_nil)) (pe_slice sl_tupA (pv 7) (po_some pe_int) po_none)) (pa_cons (pe_op op_catA (pe_slice sl_tupA (pv 7) po_none (po_some (pe_un un_neg pe_int))) (pe_tup (pa_cons pe_int pa_nil))) pa_nil)))))))
          (pss_one (ps_set (i := 10) sc_words_right.nd rfl (.inl rfl) (pe_op op_cat (pv 10) (pe_lstN (pa_cons (pe_op op_catA (pe_tup (pa_cons pe_str pa_nil)) (pe_slice sl_tupA (pv 7) (po_some pe_int) po_none)) (pa_cons (pe_op op_catA (pe_tup (pa_cons (pe_op op_add_str pe_str (pe_ix ix_tup (pv 7) pe_int (fun _ _ => rfl))) pa_nil)) (pe_slice sl_tupA (pv 7) (po_some pe_int) po_none)) pa_nil)))))))
          pss_nil)
        d2)))))
      (pss_one (ps_ret pe_bl))))))), ?_⟩
    obtain ⟨u1, u2, ua', ub', uc'⟩ := b.rc
    have ua := (hid_le a H) _ _ ua'
    have ub := ub'.le (Tle.of_same (hid_le a H))
    have uc := uc'.le (Tle.of_same (hid_le a H))
    refine ⟨_, rfl, r, rfl, ⟨_, SqL.of ua⟩, fun D hD => ?_⟩
    have Da : D ≠ a := hp.ne hD
    refine lc_list (K := K) (a := r) (xs := [V.ref u1, .ref u2]) (fun i H1 => Stp a H H1 ∧ ∃ ts : List Addr, hid a H1 D = some (.lst (ts.map V.ref)) ∧ Paired (fun t gs => ∃ us : List Str, hid a H1 t = some (.tup (us.map V.str)) ∧ Wd 6 us gs) ts ([ps, qs].take i)) ?_ ?_ ?_ ?_
    · exact ⟨(Stp.refl hp).new hD, [], (hid_ne Da).trans upd_same, .nil⟩
    · rintro i H1 _ ⟨s, _⟩
      exact SqL.of ((hid_le a H1) _ _ (s.same _ _ ua'))
    · rintro i y H1 hy ⟨s, ts, g1, g2⟩
      obtain ⟨ui, pi, rfl, hui, oki, lpi, hpi⟩ : ∃ ui pi, y = .ref ui ∧ PartsT (hid a H) ui pi ∧ okP pi ∧ pi.length ≤ 3 ∧ [ps, qs][i]? = some pi := by
        match i, hy with
        | 0, hy => cases hy; exact ⟨u1, ps, rfl, ub', b.fine.o1, l3, rfl⟩
        | 1, hy => cases hy; exact ⟨u2, qs, rfl, uc', b.fine.o2, m3, rfl⟩
        | i + 2, hy => simp at hy
      have hui' := hui.le (Tle.of_same s.same)
      refine ⟨rfl, _, rfl, ui, rfl, ⟨_, SqT.of ((hid_le a H1) _ _ hui'.choose_spec.1)⟩, fun D2 hD2 => ?_⟩
      refine lc_words rfl s.pot hui' oki lpi hD2 fun H7 us s7 g3 gw => ?_
      refine ⟨D2, _, rfl, .inl ⟨SqL.of g3, fun u hu => ?_⟩⟩
      obtain ⟨w8, k8, na8, m8⟩ := nw (o := .tup (us.map V.str)) s7.pot hu
      generalize upd H7 u (.tup (us.map V.str)) = H8 at w8 k8 m8
      have s18 := s7.trans w8
      have gD := s18.same _ _ g1
      have lts : ts.length ≤ 2 := by
        have h1 := paired_len g2
        have h2 : ([ps, qs].take i).length ≤ 2 := List.length_take_le' ..
        omega
      refine ⟨_, (hid_le a H8) _ _ gD, by rw [List.length_map, sizeLine_eq]; omega, (s.trans s18).mut hD Da, ts ++ [u], by rw [hid_ne Da, upd_same, List.map_append]; rfl, ?_⟩
      rw [take_snoc hpi]
      refine paired_snoc (L2.Paired.mapP g2 fun t p ⟨us', h1, h2⟩ => ⟨us', ?_, h2⟩) ⟨us, ?_, gw⟩
      · rw [hid_upd Da]
        exact keep_nl gD (fun m e => by cases e) (s18.same _ _ h1)
      · rw [hid_upd Da]
        exact keep_nl gD (fun m e => by cases e) ((hid_ne na8).trans k8)
    rintro H2 ⟨s2, ts, g1, g2⟩
    have g2 : Paired (fun t gs => ∃ us : List Str, hid a H2 t = some (.tup (us.map V.str)) ∧ Wd 6 us gs) ts [ps, qs] := g2
    match ts, g2, g1 with
    | [t1, tw], .cons ⟨us, ht1, wd1⟩ (.cons ⟨ws, htw, wd2⟩ .nil), g1 =>
      refine ⟨_, rfl, by show 3 ≤ sizeLine; decide, fun fl hfl _ => ?_⟩
      obtain ⟨w3, k3, na3, m3'⟩ := nw (o := .lst [V.int 0, .int 0, .int 300]) s2.pot hfl
      generalize upd H2 fl (.lst [V.int 0, .int 0, .int 300]) = H3 at w3 k3 m3'
      refine ⟨a, _, _, rfl, w3.pot, Of3.lst ((hid_ne na3).trans k3), by simp, by show 3 ≤ 100000; decide, fun v H4 hv s4 => ?_⟩
      obtain ⟨fr, rfl, fr0, fr3⟩ : ∃ fr : Int, v = .int fr ∧ 0 ≤ fr ∧ fr ≤ 300 := by
        simp only [List.mem_cons, List.not_mem_nil, or_false] at hv
        rcases hv with rfl | rfl | rfl
        · exact ⟨0, rfl, by decide, by decide⟩
        · exact ⟨0, rfl, by decide, by decide⟩
        · exact ⟨300, rfl, by decide, by decide⟩
      have s24 := w3.trans s4
      have s04 := s2.trans s24
      have b4 := b.le s04
      obtain ⟨y1, y2, ya', yb', yc'⟩ := b4.rc
      have ya := (hid_le a H4) _ _ ya'
      obtain ⟨as, eta', pra'⟩ := yb'
      have eta := (hid_le a H4) _ _ eta'
      have lpa := paired_len pra'
      have gD4 := (hid_le a H4) _ _ (s24.same _ _ g1)
      have h14 := (hid_le a H4) _ _ (s24.same _ _ ht1)
      have h24 := (hid_le a H4) _ _ (s24.same _ _ htw)
      have oks := b.fine.o1
      match ps, us, as, wd1, pra', l1, oks with
      | (n0, sg0) :: ps', w0 :: us', p0 :: as', .cons rw0 wt, .cons pa0' pat, _, oks =>
      have pa0 := (hid_le a H4) _ _ pa0'
      have ok0 := oks _ (List.mem_cons_self ..)
      have lsg := lo_signs ok0.2
      obtain ⟨c0, cr, hc0⟩ : ∃ c r, cps sg0 = c :: r := by
        cases e : cps sg0 with
        | cons c r => exact ⟨c, r, rfl⟩
        | nil =>
          have := ok0.2
          unfold signsL at this
          have e' : cps (n0, sg0).2 = [] := e
          rw [e'] at this
          simp at this
      have lw0 : w0.length ≤ 6 := rw0.1
      have lmu : (Txt.mul (⟨#[c0]⟩ : Str) fr).length ≤ 300 := by
        have : Lo (1 * 300) (Txt.mul (⟨#[c0]⟩ : Str) fr) := Lo.mul ⟨Nat.le_refl 1, fun c hc => lsg.cod c (by rw [List.mem_singleton.mp (show c ∈ [c0] from hc), hc0]; exact List.mem_cons_self ..)⟩ (by omega)
        exact this.len
      refine ⟨_, rfl, D, _, 0, .ref t1, rfl, rfl, SqL.of gD4, rfl, t1, _, 0, .str w0, rfl, rfl, SqT.of h14, atI_nat (j := 0) rfl, _, rfl, r, _, 0, .ref y1, rfl, rfl, SqL.of ya, rfl, y1, _, 0, .ref p0, rfl, rfl, SqT.of eta, atI_nat (j := 0) rfl, p0, _, 1, .str sg0, rfl, rfl, SqT.of pa0, rfl, sg0, 0, c0, rfl, rfl, by have : sg0.length ≤ 8 := lsg.len; rw [sizeLine_eq]; omega, atI_nat (j := 0) (by show (cps sg0)[0]? = some c0; rw [hc0]; rfl), _, rfl, _, fr, rfl, rfl, by show 1 ≤ 100; decide, fr0, by omega, _, _, rfl, rfl, by rw [sizeLine_eq]; omega, by show 1 ≤ sizeLine; decide, fun q5 hq5 => ?_⟩
      have e5 := same_upd (o := .tup [V.str (w0 ++ Txt.mul (⟨#[c0]⟩ : Str) fr)]) (Same.refl H4) hq5
      have k5 : (upd H4 q5 (.tup [V.str (w0 ++ Txt.mul (⟨#[c0]⟩ : Str) fr)])) q5 = _ := upd_same
      generalize upd H4 q5 (.tup [V.str (w0 ++ Txt.mul (⟨#[c0]⟩ : Str) fr)]) = H5 at e5 k5
      refine ⟨_, rfl, D, _, 0, .ref t1, rfl, rfl, SqL.of (e5 _ _ gD4), rfl, _, rfl, ?_⟩
      unfold tNoPart
      refine sl_get (e5 _ _ h14) fun t6 H6 e6 h6 => ?_
      rw [cutV_from _ _ (by decide)] at h6
      refine cat_get (e6 _ _ k5) h6 (by simp; rw [sizeLine_eq]; have := paired_len wt; simp at l3; omega) fun t7 H7 e7 h7 => ?_
      have e47 := (e5.trans e6).trans e7
      have s47 := Stp.of_same s4.pot e47
      have gD7 := s47.same _ _ (s24.same _ _ g1)
      refine ⟨_, rfl, D, _, 0, 0, rfl, rfl, (hid_le a H7) _ _ gD7, rfl, ?_⟩
      have wdU : Wd 306 ((w0 ++ Txt.mul (⟨#[c0]⟩ : Str) fr) :: us') ((n0, sg0) :: ps') := .cons ⟨by rw [Str.length_append]; omega, fun c hc => by
        rw [cps_add] at hc
        rcases List.mem_append.mp hc with h | h
        · exact rw0.2 c h
        · have := mul_mem h
          rw [List.mem_singleton.mp (show c ∈ [c0] from this)]
          show c0 ∈ cps sg0
          rw [hc0]; exact List.mem_cons_self ..⟩ (Wd.mono (by decide) wt)
      have wdW : Wd 306 ws qs := Wd.mono (by decide) wd2
      have h7 : H7 t7 = some (.tup (((w0 ++ Txt.mul (⟨#[c0]⟩ : Str) fr) :: us').map V.str)) := h7
      generalize (w0 ++ Txt.mul (⟨#[c0]⟩ : Str) fr) :: us' = US at wdU h7
      generalize hPS : (n0, sg0) :: ps' = PS at *
      have s8 : Stp a H (upd H7 D (.lst [V.ref t7, .ref tw])) := (s04.trans s47).mut hD Da
      have f7 : hid a (upd H7 D (.lst [V.ref t7, .ref tw])) t7 = some (.tup (US.map V.str)) := by
        rw [hid_upd Da]
        exact keep_nl gD7 (fun m e => by cases e) (tup_hid s47.pot h7)
      have fw : hid a (upd H7 D (.lst [V.ref t7, .ref tw])) tw = some (.tup (ws.map V.str)) := by
        rw [hid_upd Da]
        exact keep_nl gD7 (fun m e => by cases e) (s47.same _ _ (s24.same _ _ htw))
      have fD : hid a (upd H7 D (.lst [V.ref t7, .ref tw])) D = some (.lst [V.ref t7, .ref tw]) := (hid_ne Da).trans upd_same
      generalize hH8 : upd H7 D (.lst [V.ref t7, .ref tw]) = H8 at s8 f7 fw fD
      refine at_heap hH8 ?_
      have b8 := b.le s8
      obtain ⟨z1, z2, za', zb', zc'⟩ := b8.rc
      have za := (hid_le a H8) _ _ za'
      have zb := zb'.le (Tle.of_same (hid_le a H8))
      obtain ⟨bs, etb, prb⟩ := zb
      have lpb := paired_len prb
      have g7 := (hid_le a H8) _ _ f7
      have gw := (hid_le a H8) _ _ fw
      have gD := (hid_le a H8) _ _ fD
      have lUS := paired_len wdU
      have lWS := paired_len wdW
      refine ⟨_, rfl, r, _, 0, .ref z1, rfl, rfl, SqL.of za, rfl, _, _, rfl, Of3.tup etb, ?_⟩
      refine ⟨_, rfl, D, _, 0, .ref t7, rfl, rfl, SqL.of gD, rfl, t7, rfl, ⟨_, SqT.of g7⟩, fun D8 hD8 => ?_⟩
      refine lc_lens rfl g7 (fun z hz => Nat.le_trans (wdU.len z hz) (by decide)) (by omega) hD8 fun H9 e9 g9 => ?_
      refine ⟨D8, US.map fun z => ((z.length : Nat) : Int), rfl, SqL.of (by rw [g9, List.map_map]; rfl), ?_⟩
      rw [sum_lens]
      refine ⟨_, _, rfl, rfl, ?_⟩
      refine ⟨_, rfl, D, _, 1, .ref tw, rfl, rfl, SqL.of (e9 _ _ gD), rfl, tw, rfl, ⟨_, SqT.of (e9 _ _ gw)⟩, fun D9 hD9 => ?_⟩
      refine lc_lens rfl (e9 _ _ gw) (fun z hz => Nat.le_trans (wdW.len z hz) (by decide)) (by omega) hD9 fun H10 e10 g10 => ?_
      refine ⟨D9, ws.map fun z => ((z.length : Nat) : Int), rfl, SqL.of (by rw [g10, List.map_map]; rfl), ?_⟩
      rw [sum_lens]
      refine ⟨_, _, rfl, rfl, ?_⟩
      have edue : ((((bs.map V.ref).length : Nat) : Int) + ((lensOf US : Nat) : Int) + ((lensOf ws : Nat) : Int)) = ((US.length + (lensOf US + lensOf ws) : Nat) : Int) := by
        rw [List.length_map]; omega
      have e810 := e9.trans e10
      have s10 := s8.trans (Stp.of_same s8.pot e810)
      have b10 := b.le s10
      obtain ⟨stx, _⟩ := b10.at
      obtain ⟨dx, _, _, _, _, sx, _⟩ := id stx
      have okq := b.fine.o2
      refine ⟨_, rfl, x, dx, _, rfl, sx, _, rfl, D, _, 0, .ref t7, rfl, rfl, SqL.of (e810 _ _ gD), rfl, _, rfl, D, _, 1, .ref tw, rfl, rfl, SqL.of (e810 _ _ gD), rfl, ?_⟩
      refine ⟨x, t7, tw, PS, qs, US, ws, rfl, stx, l3, m3, ⟨e810 _ _ g7, wdU.tok oks (by decide)⟩, ⟨e810 _ _ gw, wdW.tok okq (by decide)⟩, wdU.words, wdW.words, fun H11 e11 => ?_⟩
      refine ⟨_, rfl, rfl, _, rfl, ?_⟩
      refine ite_not (decide_eq_true (congrArg V.int edue.symm)) ?_
      have e811 := e810.trans e11
      have s11 := s8.trans (Stp.of_same s8.pot e811)
      have b11 := b.le s11
      have sl : Stp a H8 H11 := Stp.of_same s8.pot e811
      refine ⟨_, rfl, by decide, by decide, for_range (fun i σ H' => ∃ v5 v6 v7 v8 v9 v10 v11 v12 : Option V, σ = [some (.ref a), some (.ref x), some (.ref r), some (.ref D), some (.int fr), v5, v6, v7, v8, v9, v10, v11, v12, none, none, none, none, none] ∧ Stp a H11 H') ?_ ?_ ?_⟩
      · exact ⟨_, _, _, _, _, _, _, _, rfl, Stp.refl s11.pot⟩
      · rintro i σ H12 hi ⟨v5, v6, v7, v8, v9, v10, v11, v12, rfl, s12⟩
        have s812 := sl.trans s12
        have b12 := b11.le s12
        obtain ⟨q1, q2, qa', qb', qc'⟩ := b12.rc
        have hi : i < 2 := by simpa using hi
        obtain ⟨gs, uss, tg, ug, sel, wdg, htg, hixD, hixr, hug, okg, lg⟩ : ∃ (gs : Parts) (uss : List Str) (tg ug : Addr), (i = 0 ∧ gs = PS ∨ i = 1 ∧ gs = qs) ∧ Wd 306 uss gs ∧ hid a H12 tg = some (.tup (uss.map V.str)) ∧ atI [V.ref t7, .ref tw] ((i : Nat) : Int) = some (.ref tg) ∧ atI [V.ref q1, .ref q2] ((i : Nat) : Int) = some (.ref ug) ∧ PartsT (hid a H12) ug gs ∧ okP gs ∧ gs.length ≤ 3 := by
          match i, hi with
          | 0, _ => exact ⟨PS, US, t7, q1, .inl ⟨rfl, rfl⟩, wdU, s812.same _ _ f7, rfl, rfl, qb', oks, l3⟩
          | 1, _ => exact ⟨qs, ws, tw, q2, .inr ⟨rfl, rfl⟩, wdW, s812.same _ _ fw, rfl, rfl, qc', okq, m3⟩
        have gD12 := (hid_le a H12) _ _ (s812.same _ _ fD)
        have qa := (hid_le a H12) _ _ qa'
        have hug12 := hug.le (Tle.of_same (hid_le a H12))
        refine ⟨_, rfl, _, rfl, D, _, _, .ref tg, rfl, rfl, SqL.of gD12, (by rw [Int.zero_add]; exact hixD), ?_⟩
        refine ⟨⟨_, rfl⟩, _, rfl, _, rfl, r, _, _, .ref ug, rfl, rfl, SqL.of qa, (by rw [Int.zero_add]; exact hixr), ug, rfl, ⟨_, SqT.of hug12.choose_spec.1⟩, fun D2 hD2 => ?_⟩
        refine lc_sgs rfl hug12 (by omega) hD2 fun H13 e13 g13 => ?_
        have sgl : ∀ y ∈ gs.map (·.2), y.length ≤ 8 := fun y hy => by
          obtain ⟨p, hp, rfl⟩ := List.mem_map.mp hy
          exact (lo_signs (okg p hp).2).len
        refine ⟨_, _, gs.map (·.2), rfl, rfl, .inl (SqL.of g13), (by have := sum_le (c := 8) _ sgl; rw [List.length_map] at this; show _ + _ * 0 ≤ sizeLine; rw [sizeLine_eq]; omega), ?_⟩
        have ej := cps_join (gs.map (·.2))
        generalize Txt.join "" (gs.map (·.2)) = sgn at ej
        refine ⟨by show 2 ≤ sizeLine; decide, fun tt htt => ?_⟩
        have s13 := Stp.of_same s12.pot e13
        obtain ⟨w14, k14, na14, m14⟩ := nw (o := .tup [V.ref tg, .str sgn]) s13.pot htt
        generalize upd H13 tt (.tup [V.ref tg, .str sgn]) = H14 at w14 k14 m14
        refine ⟨tt, _, rfl, SqT.of k14, rfl, _, _, rfl, _, _, rfl, rfl, ?_⟩
        have s14 := s13.trans w14
        refine pick_strange rfl rfl (by rw [ej]; have := flat_len okg; omega) fun c H15 e15 hc nc => ?_
        have s15 := s14.trans (Stp.of_same s14.pot e15)
        have lowU := wdg.low okg
        have el : gs.length = uss.length := (paired_len wdg).symm
        refine bad_more (gs := gs) s15.pot rfl (s15.same _ _ htg) lowU (by omega) el (fun H => .str _ (Lo.tok (n := 0) ⟨by decide +kernel, by decide +kernel⟩ (by decide))) fun v1 H16 s16 b1 => ?_
        have t16 := s15.trans s16
        refine bad_less (gs := gs) t16.pot rfl (t16.same _ _ htg) lowU (by omega) el fun v2 H17 s17 b2 => ?_
        have t17 := t16.trans s17
        refine ⟨_, rfl, _, _, rfl, Of3.tup ((hid_le a H17) _ _ (t17.same _ _ htg)), fun q3 hq3 nq3 => ?_⟩
        obtain ⟨w18, k18, na18, m18⟩ := nw (o := .lst (uss.map V.str)) t17.pot hq3
        generalize upd H17 q3 (.lst (uss.map V.str)) = H18 at w18 k18 m18
        have t18 := t17.trans w18
        refine fun q4 hq4 => ?_
        obtain ⟨w19, k19, na19, m19⟩ := nw (o := .dK []) t18.pot hq4
        generalize upd H18 q4 (.dK []) = H19 at w19 k19 m19
        have t19 := t18.trans w19
        refine ⟨_, rfl, by show 1 ≤ sizeLine; decide, fun q5 hq5 => ?_⟩
        obtain ⟨w20, k20, na20, m20⟩ := nw (o := .tup [V.ref tg]) t19.pot hq5
        generalize upd H19 q5 (.tup [V.ref tg]) = H20 at w20 k20 m20
        have t20 := t19.trans w20
        refine bad_more (gs := gs) t20.pot rfl (t20.same _ _ htg) lowU (by omega) el (fun H => .non) fun v6 H21 s21 b6 => ?_
        have t21 := t20.trans s21
        refine ⟨by show 10 ≤ sizeLine; decide, fun so hso nso => ?_⟩
        obtain ⟨w22, k22, na22, m22⟩ := nw (o := .lst [v1, v2, .ref q3, .non, .int 0, .str "a", .ref q4, .ref q5, v6, .bl true]) t21.pot hso
        generalize upd H21 so (.lst [v1, v2, .ref q3, .non, .int 0, .str "a", .ref q4, .ref q5, v6, .bl true]) = H22 at w22 k22 m22
        have t22 := t21.trans w22
        have z2022 := s21.trans w22
        have z1922 := w20.trans z2022
        have z1822 := w19.trans z1922
        have z1722 := w18.trans z1822
        have tok := wdg.tok okg (by decide)
        have dxr : Dx (hid a H22) (.ref tg) (.tuple (uss.map .str)) := .tup (t22.same _ _ htg) (dx_words tok)
        have bads : ∀ v ∈ [v1, v2, .ref q3, .non, .int 0, .str "a", .ref q4, .ref q5, v6, .bl true], Bad (hid a H22) gs v := by
          intro v hv
          simp only [List.mem_cons, List.not_mem_nil, or_false] at hv
          rcases hv with rfl | rfl | rfl | rfl | rfl | rfl | rfl | rfl | rfl | rfl
          · exact b1.le (s17.trans z1722).same
          · exact b2.le z1722.same
          · exact Bad.list (z1822.same _ _ ((hid_ne na18).trans k18)) nq3 tok
          · exact ⟨_, .non, rfl⟩
          · exact Bad.zero
          · exact Bad.a
          · exact Bad.dict (z1922.same _ _ ((hid_ne na19).trans k19))
          · refine Bad.tup (z2022.same _ _ ((hid_ne na20).trans k20)) (.cons dxr .nil) ?_
            match gs with
            | [] => exact bad_len (by simp)
            | p :: gs' => exact bad_first rfl
          · exact b6.le w22.same
          · exact ⟨_, .bl true, rfl⟩
        have hso22 : hid a H22 so = _ := (hid_ne na22).trans k22
        generalize hXS : [v1, v2, V.ref q3, .non, .int 0, .str "a", .ref q4, .ref q5, v6, .bl true] = XS at bads hso22 k22
        have lXS : XS.length = 10 := by rw [← hXS]; rfl
        refine ⟨_, rfl, by show 0 ≤ sizeLine; decide, fun q8 hq8 => ?_⟩
        obtain ⟨w23, k23, na23, m23⟩ := nw (o := .tup []) t22.pot hq8
        generalize upd H22 q8 (.tup []) = H23 at w23 k23 m23
        have t23 := t22.trans w23
        refine ⟨.tuple (uss.map .str), .tuple [], dxr.le (w23.same.trans (hid_le a H23)), .tup k23 .nil, words_shaped lowU, words_shaped (n := 0) (us := []) (fun z hz => nomatch hz), _, rfl, ?_⟩
        rw [words_eqv]
        refine ite2 (fun c1 => ?_) (fun c1 => ?_)
        · obtain ⟨z, us0, p, gs0, rfl, rfl⟩ : ∃ z us0 p gs0, uss = z :: us0 ∧ gs = p :: gs0 := by
            cases wdg with
            | nil => exact absurd c1 (by decide)
            | cons r t => exact ⟨_, _, _, _, rfl, rfl⟩
          obtain ⟨rz, wz⟩ : (z.length ≤ 306 ∧ ∀ c ∈ cps z, c ∈ cps p.2) ∧ Wd 306 us0 gs0 := by
            cases wdg with
            | cons r t => exact ⟨r, t⟩
          have lowz := lowU z (List.mem_cons_self ..)
          have lz : z.length ≤ 306 := rz.1
          have cp : c ∉ cps p.2 := fun q => nc (by rw [ej]; exact flat_mem (List.mem_cons_self ..) q)
          have low97 : ∀ d ∈ cps p.2, 97 ≤ d := fun d hd => by
            have h := (okg p (List.mem_cons_self ..)).2
            unfold signsL at h
            simp only [Bool.and_eq_true, decide_eq_true_eq] at h
            have := List.all_eq_true.mp h.1.2 d hd
            simp only [Bool.and_eq_true, decide_eq_true_eq] at this
            omega
          have ll : us0.length ≤ 100 := by
            have := paired_len wz
            simp at lg
            omega
          refine ⟨_, rfl, ?_⟩
          refine bad_head (p := p) (gs := gs0) t23.pot rfl (t23.same _ _ htg) lowU ll (fun Q1 h1 => ?_) fun v11 H24 s24 b24 => ?_
          · refine ⟨_, rfl, tg, _, 0, .str z, rfl, rfl, SqT.of ((hid_le a H23) _ _ (t23.same _ _ htg)), atI_nat (j := 0) rfl, _, rfl, _, _, rfl, rfl, by rw [sizeLine_eq]; show z.length + 1 ≤ _; omega, ?_⟩
            have lt : Lo (306 + 1) (z ++ (⟨#[c]⟩ : Str)) := lowz.add ⟨Nat.le_refl 1, fun d hd => by
              rw [List.mem_singleton.mp (show d ∈ [c] from hd)]
              have : ∀ y ∈ cps abc, y < 128 := by decide +kernel
              exact this c hc⟩
            exact h1 _ _ _ (Stp.refl t23.pot) (.str _ (lt.tok (by decide))) (word_not (c := c) (by rw [cps_add]; exact List.mem_append_right _ (List.mem_cons_self ..)) cp)
          have t24 := t23.trans s24
          refine bad_head (p := p) (gs := gs0) t24.pot rfl (t24.same _ _ htg) lowU ll (fun Q1 h1 => h1 _ _ _ (Stp.refl t24.pot) .non rfl) fun v12 H25 s25 b25 => ?_
          have t25 := t24.trans s25
          refine bad_head (p := p) (gs := gs0) t25.pot rfl (t25.same _ _ htg) lowU ll (fun Q1 h1 => ?_) fun v13 H26 s26 b26 => ?_
          · refine ⟨_, rfl, ?_⟩
            refine ⟨_, rfl, ?_⟩
            refine sl_get ((hid_le a H25) _ _ (t25.same _ _ htg)) fun tq G e hq => ?_
            rw [cutV_to _ _ (by decide)] at hq
            have hq : G tq = some (.tup [V.str z]) := hq
            have sG := Stp.of_same t25.pot e
            exact h1 _ _ _ sG (.tup (tup_hid sG.pot hq) (.cons (.str _ (lowz.tok (by decide))) .nil)) rfl
          have t26 := t25.trans s26
          refine bad_end (gs := p :: gs0) t26.pot rfl (t26.same _ _ htg) lowU (by rw [List.length_cons]; simp at lg el; omega) (fun e => by cases e) el fun v14 H27 s27 b27 => ?_
          have t27 := t26.trans s27
          refine ⟨by show 4 ≤ sizeLine; decide, fun q9 hq9 _ => ?_⟩
          obtain ⟨w28, k28, na28, m28⟩ := nw (o := .lst [v11, v12, v13, v14]) t27.pot hq9
          generalize upd H27 q9 (.lst [v11, v12, v13, v14]) = H28 at w28 k28 m28
          have z2328 := ((s24.trans s25).trans (s26.trans s27)).trans w28
          have z2228 := w23.trans z2328
          refine ⟨so, q9, _, _, rfl, rfl, (hid_le a H28) _ _ (z2228.same _ _ hso22), k28, by rw [lXS, sizeLine_eq]; show 10 + 4 ≤ _; decide, fun s2 hs2 => ?_⟩
          have t28 := t27.trans w28
          obtain ⟨w29, k29, na29, m29⟩ := nw (o := .lst (XS ++ [v11, v12, v13, v14])) t28.pot hs2
          generalize upd H28 s2 (.lst (XS ++ [v11, v12, v13, v14])) = H29 at w29 k29 m29
          have t29 := t28.trans w29
          refine ⟨_, rfl, ?_⟩
          refine bad_head (p := p) (gs := gs0) t29.pot rfl (t29.same _ _ htg) lowU ll (fun Q1 h1 => h1 _ _ _ (Stp.refl t29.pot) (.str _ (Lo.tok (n := 1) ⟨by decide +kernel, by decide +kernel⟩ (by decide))) (word_not (c := 65) (by decide +kernel) (fun q => by have := low97 65 q; omega))) fun v15 H30 s30 b30 => ?_
          have t30 := t29.trans s30
          refine bad_head (p := p) (gs := gs0) t30.pot rfl (t30.same _ _ htg) lowU ll (fun Q1 h1 => ?_) fun v16 H31 s31 b31 => ?_
          · refine ⟨_, rfl, tg, _, 0, .str z, rfl, rfl, SqT.of ((hid_le a H30) _ _ (t30.same _ _ htg)), atI_nat (j := 0) rfl, _, _, rfl, rfl, by rw [sizeLine_eq]; show 1 + z.length ≤ _; omega, ?_⟩
            have lt : Lo (1 + 306) ((" " : Str) ++ z) := Lo.add ⟨by decide +kernel, by decide +kernel⟩ lowz
            exact h1 _ _ _ (Stp.refl t30.pot) (.str _ (lt.tok (by decide))) (word_not (c := 32) (by rw [cps_add]; exact List.mem_append_left _ (by decide +kernel)) (fun q => by have := low97 32 q; omega))
          have t31 := t30.trans s31
          refine ⟨by show 2 ≤ sizeLine; decide, fun q10 hq10 _ => ?_⟩
          obtain ⟨w32, k32, na32, m32⟩ := nw (o := .lst [v15, v16]) t31.pot hq10
          generalize upd H31 q10 (.lst [v15, v16]) = H32 at w32 k32 m32
          have z2932 := (s30.trans s31).trans w32
          refine ⟨s2, q10, _, _, rfl, rfl, z2932.get k29 na29, k32, by rw [List.length_append, lXS, sizeLine_eq]; show 10 + 4 + 2 ≤ _; decide, fun s3 hs3 => ?_⟩
          have t32 := t31.trans w32
          obtain ⟨w33, k33, na33, m33⟩ := nw (o := .lst ((XS ++ [v11, v12, v13, v14]) ++ [v15, v16])) t32.pot hs3
          generalize upd H32 s3 (.lst ((XS ++ [v11, v12, v13, v14]) ++ [v15, v16])) = H33 at w33 k33 m33
          have t33 := t32.trans w33
          have y2933 := z2932.trans w33
          have y2833 := w29.trans y2933
          have y2733 := w28.trans y2833
          refine r2 _ _ _ i _ _ _ _ _ _ _ _ _ _ _ _ (s11.trans (s12.trans t33)) (Int.zero_add _) sel wdg (t33.same _ _ htg) ((hid_ne na33).trans k33) (by simp) (by rw [List.length_append, List.length_append, lXS]; show 10 + 4 + 2 ≤ 100; decide) (fun v hv => ?_) fun H2 v11 v12 s2 => ⟨_, _, _, _, _, _, _, _, rfl, s12.trans (t33.trans s2)⟩
          rcases List.mem_append.mp hv with hv | hv
          · rcases List.mem_append.mp hv with hv | hv
            · exact (bads v hv).le (z2228.trans y2833).same
            · simp only [List.mem_cons, List.not_mem_nil, or_false] at hv
              rcases hv with rfl | rfl | rfl | rfl
              · exact b24.le (((s25.trans s26).trans s27).trans y2733).same
              · exact b25.le ((s26.trans s27).trans y2733).same
              · exact b26.le (s27.trans y2733).same
              · exact b27.le y2733.same
          · simp only [List.mem_cons, List.not_mem_nil, or_false] at hv
            rcases hv with rfl | rfl
            · exact b30.le ((s31.trans w32).trans w33).same
            · exact b31.le (w32.trans w33).same
        · refine r2 _ _ _ i _ _ _ _ _ _ _ _ _ _ _ _ (s11.trans (s12.trans t23)) (Int.zero_add _) sel wdg (t23.same _ _ htg) (w23.same _ _ hso22) (fun e => by rw [e] at lXS; cases lXS) (by omega) (fun v hv => (bads v hv).le w23.same) fun H2 v11 v12 s2 => ⟨_, _, _, _, _, _, _, _, rfl, s12.trans (t23.trans s2)⟩
      · rintro σ H12 ⟨v5, v6, v7, v8, v9, v10, v11, v12, rfl, s12⟩
        exact k H12 (s11.trans s12)
end
end Fs
namespace Fs
open PySem PySem.Spec PyProof.Rows L2 SlX RZ StX
/-! ### the law -/
theorem passAtN {X : Cx} {σ : L2.St} : PassesAt (L2.CX X.prog X.w) X σ E0 := fun pins H s e s' I c => by
  obtain ⟨_, _, _, _, _, _, _, _, _, _, _, _, hW⟩ := c
  exact hW.elim
theorem same_hid {a : Addr} {H H' : Hp} (e : Same H H') (h : H a = none) : Same H (hid a H') := fun b o q => by
  rw [hid_ne (ne_of_none q h)]; exact e b o q
def lawP : Parts := [("x", "a"), ("y", "b")]
def lawQ : Parts := [("z", "ab")]
def lawL : Parts := [("z", "x"), ("x", "y"), ("y", "z")]
theorem law_fine : Fine lawP lawQ := ⟨by decide +kernel, by show ∀ p ∈ lawP, _; decide +kernel, by show ∀ p ∈ lawQ, _; decide +kernel⟩
theorem law_ren : Ren lawL (namesP (lawP ++ lawQ)) := ⟨by decide +kernel, by decide +kernel, by decide +kernel, by decide +kernel, by decide +kernel⟩
section
variable {P : Program} {w : World} {K : PySem.W.Frag} {mg : Str → Option Value} {base : Heap} {C SO : Addr}
theorem fun_fng {x : Str} {st : Stmt} {N ps : List Str} {k : Nat} {sp : Sp} {f : Addr} {fd : FuncData} (F : L2.Fun K x x st f fd) (S : FnScope N ps (defScope st)) (lens : ∀ vs H Q E, sp vs H Q E → vs.length = ps.length)
    (body : ∀ (cdv : Value) (A : Around) (outer : List Env) (s : Shared) (H : Hp) (vs : List V) (Q : VK) (E : XK), Rm k (A.deeper (envOfC x (defScope st) s.heap.objs.size f cdv)) → sp vs H Q E →
      ∃ t, PSs (cxOf CX0 P w K mg base N x (defScope st) f cdv A outer s H E).nox (defBody st) t ∧ t { nx := fun _ H' => Q .non H', rt := Q } (start N vs) H) : FnG P w K mg base CX0 (k + 1) f fd ps sp := by
  refine FnG.by F S lens (fun cdv A outer s H vs Q E room guards want => ?_)
  obtain ⟨t, d, r⟩ := body cdv A outer s H vs Q E ⟨room, guards⟩ want
  exact ⟨t, d.nox, r⟩
/-- an exception of a class is what the class names -/
theorem exm_self {S : Addr} (h1 : PySem.W.subIn K (.ref S) (.type "BaseException") = some true) (h2 : PySem.W.isClsIn K S = true) (h3 : PySem.W.typeIn K (.ref S) = some (.type "type")) (h4 : PySem.W.subIn K (.ref S) (.ref S) = some true) : PySem.W.exmOne K (.ref S) (.ref S) = some true := by
  have e1 : (PySem.W.subIn K (.ref S) (.type "BaseException") == some true) = true := by rw [h1]; rfl
  have e2 : ((PySem.W.clsIn K S).isSome && PySem.W.typeIn K (.ref S) == some (.type "type")) = true := by
    have h5 : (PySem.W.clsIn K S).isSome = true := h2
    rw [h5, h3]; rfl
  show (if (PySem.W.subIn K (.ref S) (.type "BaseException") == some true) = true then (if ((PySem.W.clsIn K S).isSome && PySem.W.typeIn K (.ref S) == some (.type "type")) = true then PySem.W.subIn K (.ref S) (.ref S) else none) else none) = some true
  rw [if_pos e1, if_pos e2, h4]
def spLaw (K : PySem.W.Frag) : Sp := fun vs H Q _ => ∃ (p : Addr) (ns : List Int), vs = [.ref p] ∧ SqL K H p (ns.map V.int) ∧ ns.length ≤ 63 ∧ ∀ H', Q (.bl true) H'
abbrev s_law : Stmt := top 42
theorem sc_law : FnScope ["script", "at", "pair", "turned", "told"] ["script"] (defScope s_law) := ⟨rfl, rfl, rfl, by decide +kernel, rfl, by decide +kernel, by decide +kernel⟩
theorem fng_law {f fI : Addr} {fd fdI : FuncData} (T : Bs mg) (Z : Sx K mg C SO) (F : L2.Fun K "law" "law" s_law f fd) (C_filled : Cal P w K mg base 1 "_law_filled" (spFilled K)) (C_right : Cal P w K mg base 10 "_law_right" spOk)
    (MK : L2.Mk K C fI) (C_init : FnG P w K mg base CX0 5 fI fdI ["self", "sources", "sinks"] (spInit C)) (BI : Binds K fdI ["self", "sources", "sinks"] []) (M_renamed : Mth P w K mg base CX0 C "renamed" 7 (spRnd C)) (M_without : Mth P w K mg base (L2.CX P w) C "without" 7 (spLess C SO))
    (M_index_of : Mth P w K mg base CX0 C "index_of" 3 (spPlace C fun j m => .int ((if j < m then j else j - m : Nat) : Int))) (M_str : Mth P w K mg base CX0 C "__str__" 1 (spStr' C)) (M_eq : Mth P w K mg base CX0 C "__eq__" 1 (spEq K C)) : FnG P w K mg base CX0 11 f fd ["script"] (spLaw K) := by
  refine fun_fng F sc_law (fun vs H Q E h => ?_) (fun cdv A outer s H vs Q E hr h => ?_)
  · obtain ⟨p, ns, rfl, _⟩ := h
    rfl
  · obtain ⟨p, ns, rfl, hp, hl, k⟩ := h
    refine ⟨_, pss_cons (ps_for PassesOwn.never rfl (pi_range1 (by rfl) T.z_range (pa_cons (pb (call_max2 rfl) T.z_max (pa_cons pe_int (pa_cons (pb (call_min2 rfl) T.z_min (pa_cons pe_int (pa_cons (pb call_len3 T.z_len (pa_cons (pv 0) pa_nil)) pa_nil))) pa_nil))) pa_nil)) (pg_name (i := 1) sc_law.nd rfl (Or.inl rfl))
        (pss_one (ps_if (pt_not (pt_val (pc C_right hr (pa_cons (pc C_filled hr (pa_cons (pv 0) (pa_cons (pv 1) pa_nil))) pa_nil))))
          (pss_one (ps_ret pe_bl))
          pss_nil)))
      (pss_cons (ps_set (i := 2) sc_law.nd rfl (.inl rfl) (pe_makeG (E := fun _ => E0) MK C_init hr Z.gC BI (fun _ => passAt0) (pa_cons (pe_tup (pa_cons (pe_tup (pa_cons pe_str (pa_cons pe_str pa_nil))) (pa_cons (pe_tup (pa_cons pe_str (pa_cons pe_str pa_nil))) pa_nil))) (pa_cons (pe_tup (pa_cons (pe_tup (pa_cons pe_str (pa_cons pe_str pa_nil))) pa_nil)) pa_nil))))
      (pss_cons (ps_set (i := 3) sc_law.nd rfl (.inl rfl) (pe_mthd (E := fun _ => E0) M_renamed Z.sc hr (fun _ => passAt0) (pv 2) (pa_cons (pe_disp (pps_cons pe_str pe_str (pps_cons pe_str pe_str (pps_cons pe_str pe_str pps_nil))) rfl rfl (by simp) (by decide)) pa_nil)))
      (pss_cons (ps_set (i := 4) sc_law.nd rfl (.inl rfl) (pe_lstN (pa_cons (pt (call_strM M_str hr) T.z_str (pa_cons (pv 3) pa_nil)) (pa_cons (pe_mthd (E := fun _ => E0) M_index_of Z.sc hr (fun _ => passAt0) (pv 3) (pa_cons pe_str pa_nil)) (pa_cons (pt (call_strM M_str hr) T.z_str (pa_cons (pe_mthd (E := fun _ => E0) M_without Z.sc hr (fun σ => passAtN) (pv 2) (pa_cons pe_str pa_nil)) pa_nil)) (pa_cons (pt (call_strM M_str hr) T.z_str (pa_cons (pe_mthd (E := fun _ => E0) M_without Z.sc hr (fun σ => passAtN) (pv 2) (pa_cons pe_str pa_nil)) pa_nil)) (pa_cons (pe_cmpR (op_eqM M_eq hr) (pv 2) (pv 3) (nomark _)) pa_nil)))))))
      (pss_one (ps_ret (pe_cmpR (op_eqX hr.rm.units) (pv 4) (pe_lstN (pa_cons pe_str (pa_cons pe_int (pa_cons pe_str (pa_cons pe_str (pa_cons pe_bl pa_nil)))))) (nomark _))))))), ?_⟩
    have hl' : (ns.map V.int).length = ns.length := List.length_map ..
    refine ⟨_, rfl, _, _, rfl, .inl ⟨p, rfl, .inl hp⟩, _, _, rfl, _, _, rfl, _, rfl, ?_, ?_, for_range (fun i σ H1 => ∃ v1 : Option V, σ = [some (.ref p), v1, none, none, none] ∧ Same H H1) ?_ ?_ ?_⟩
    · split <;> split <;> omega
    · split <;> split <;> omega
    · exact ⟨none, rfl, Same.refl H⟩
    · rintro i σ H1 hi ⟨v1, rfl, e1⟩
      have hi6 : i < 7 := by
        rw [hl'] at hi
        split at hi <;> split at hi <;> omega
      refine ⟨_, rfl, _, rfl, p, ns, 0 + (i : Int), rfl, e1.seq hp, by omega, by omega, fun a H2 ha pa e2 => ?_⟩
      have h2 := same_hid e2 ha
      refine ⟨a, rfl, pa, fun H3 s3 => ⟨_, rfl, ?_⟩⟩
      refine iteF ?_
      exact ⟨_, rfl, e1.trans ((h2.trans s3.same).trans (hid_le a H3))⟩
    · rintro σ H1 ⟨v1, rfl, e1⟩
      refine ⟨by show 2 ≤ sizeLine; decide, fun a1 ha1 => ?_⟩
      have e2 := same_upd (o := .tup [V.str "x", .str "a"]) (Same.refl H1) ha1
      have k2 : (upd H1 a1 (.tup [V.str "x", .str "a"])) a1 = _ := upd_same
      generalize upd H1 a1 (.tup [V.str "x", .str "a"]) = H2 at e2 k2
      refine ⟨by show 2 ≤ sizeLine; decide, fun a2 ha2 => ?_⟩
      have e3 := same_upd (o := .tup [V.str "y", .str "b"]) (Same.refl H2) ha2
      have k3 : (upd H2 a2 (.tup [V.str "y", .str "b"])) a2 = _ := upd_same
      generalize upd H2 a2 (.tup [V.str "y", .str "b"]) = H3 at e3 k3
      refine ⟨by show 2 ≤ sizeLine; decide, fun t1 ht1 => ?_⟩
      have e4 := same_upd (o := .tup [V.ref a1, .ref a2]) (Same.refl H3) ht1
      have k4 : (upd H3 t1 (.tup [V.ref a1, .ref a2])) t1 = _ := upd_same
      generalize upd H3 t1 (.tup [V.ref a1, .ref a2]) = H4 at e4 k4
      refine ⟨by show 2 ≤ sizeLine; decide, fun a3 ha3 => ?_⟩
      have e5 := same_upd (o := .tup [V.str "z", .str "ab"]) (Same.refl H4) ha3
      have k5 : (upd H4 a3 (.tup [V.str "z", .str "ab"])) a3 = _ := upd_same
      generalize upd H4 a3 (.tup [V.str "z", .str "ab"]) = H5 at e5 k5
      refine ⟨by show 1 ≤ sizeLine; decide, fun t2 ht2 => ?_⟩
      have e6 := same_upd (o := .tup [V.ref a3]) (Same.refl H5) ht2
      have k6 : (upd H5 t2 (.tup [V.ref a3])) t2 = _ := upd_same
      generalize upd H5 t2 (.tup [V.ref a3]) = H6 at e6 k6
      have hP : PartsT H6 t1 lawP := ⟨[a1, a2], (e5.trans e6) _ _ k4, .cons ((((e3.trans e4).trans e5).trans e6) _ _ k2) (.cons (((e4.trans e5).trans e6) _ _ k3) .nil)⟩
      have hQ : PartsT H6 t2 lawQ := ⟨[a3], k6, .cons (e6 _ _ k5) .nil⟩
      refine mk_get2 hP hQ law_fine fun x H7 e7 hx st7 => ?_
      obtain ⟨dx, vx, sx⟩ := slt_of st7
      refine ⟨_, rfl, x, dx, vx, rfl, sx, fun d hd => ⟨upd_same, kvsOf lawL, rfl, by decide, ?_⟩⟩
      have em : mergeK [] (kvsOf lawL) = kvsOf lawL := merge_nodup (acc := []) law_ren.kn
      rw [em]
      have e8 : Same H7 (upd (upd H7 d (.dK [])) d (.dK (kvsOf lawL))) := same_mut (same_upd (Same.refl H7) hd) hd
      have k8 : (upd (upd H7 d (.dK [])) d (.dK (kvsOf lawL))) d = _ := upd_same
      generalize upd (upd H7 d (.dK [])) d (.dK (kvsOf lawL)) = H8 at e8 k8
      refine ⟨x, d, lawP, lawQ, lawL, rfl, st7.le e8, law_fine, k8, law_ren, fun y H9 e9 sty => ?_⟩
      have fine2 := fine_rn law_fine law_ren
      obtain ⟨dy, vy, sy⟩ := slt_of sty
      have stx := st7.le (e8.trans e9)
      have sx := slt_mono sx (e8.trans e9)
      refine ⟨_, rfl, y, dy, vy, rfl, sy, y, _, _, rfl, sty, fine2, fun H10 e10 => ⟨_, rfl, ?_⟩⟩
      refine ⟨_, rfl, y, dy, vy, rfl, slt_mono sy e10, y, "z", "b", 1, _, _, rfl, sty.le e10, ⟨by decide +kernel, by decide +kernel⟩, fine2.out.2.2.2, rfl, fun H11 e11 => ?_⟩
      have e911 := e10.trans e11
      refine ⟨_, rfl, x, dx, vx, rfl, slt_mono sx e911, x, "x", lawP, lawQ, rfl, stx.le e911, law_fine, ⟨by decide +kernel, by decide +kernel⟩, by decide +kernel, fun n1 z1 H12 e12 st12 => ?_, fun h0 => absurd h0 (by decide +kernel)⟩
      obtain ⟨d12, v12, s12⟩ := slt_of st12
      refine ⟨z1, d12, v12, rfl, s12, z1, _, _, rfl, st12, fine_less law_fine n1, fun H13 e13 => ⟨_, rfl, ?_⟩⟩
      have e913 := (e911.trans e12).trans e13
      refine ⟨_, rfl, x, dx, vx, rfl, slt_mono sx e913, x, "z", lawP, lawQ, rfl, stx.le e913, law_fine, ⟨by decide +kernel, by decide +kernel⟩, by decide +kernel, fun n2 z2 H14 e14 st14 => ?_, fun h0 => absurd h0 (by decide +kernel)⟩
      obtain ⟨d14, v14, s14⟩ := slt_of st14
      refine ⟨z2, d14, v14, rfl, s14, z2, _, _, rfl, st14, fine_less law_fine n2, fun H15 e15 => ⟨_, rfl, ?_⟩⟩
      have e915 := (e913.trans e14).trans e15
      refine ⟨_, rfl, _, rfl, x, dx, vx, .ref C, rfl, slt_mono sx e915, .inl ⟨y, dy, vy, rfl, slt_mono sy e915, rfl⟩, Z.nf, x, lawP, lawQ, stx.le e915, law_fine, .inl ⟨y, _, _, rfl, sty.le e915, fine2, ?_⟩⟩
      refine ⟨by show 5 ≤ sizeLine; decide, fun l1 hl1 nl1 => ?_⟩
      have k16 : (upd H15 l1 (.lst [V.str (strP (rnP lawL lawP) (rnP lawL lawQ)), .int ((if 1 < (rnP lawL lawP).length then 1 else 1 - (rnP lawL lawP).length : Nat) : Int), .str (strP (lessP "x" lawP) (lessP "x" lawQ)), .str (strP (lessP "z" lawP) (lessP "z" lawQ)), .bl (decide (lawP = rnP lawL lawP ∧ lawQ = rnP lawL lawQ))])) l1 = _ := upd_same
      refine at_heap (G' := upd H15 l1 (.lst [V.str (strP (rnP lawL lawP) (rnP lawL lawQ)), .int ((if 1 < (rnP lawL lawP).length then 1 else 1 - (rnP lawL lawP).length : Nat) : Int), .str (strP (lessP "x" lawP) (lessP "x" lawQ)), .str (strP (lessP "z" lawP) (lessP "z" lawQ)), .bl (decide (lawP = rnP lawL lawP ∧ lawQ = rnP lawL lawQ))])) rfl ?_
      generalize upd H15 l1 (.lst [V.str (strP (rnP lawL lawP) (rnP lawL lawQ)), .int ((if 1 < (rnP lawL lawP).length then 1 else 1 - (rnP lawL lawP).length : Nat) : Int), .str (strP (lessP "x" lawP) (lessP "x" lawQ)), .str (strP (lessP "z" lawP) (lessP "z" lawQ)), .bl (decide (lawP = rnP lawL lawP ∧ lawQ = rnP lawL lawQ))]) = H16 at k16
      refine ⟨_, rfl, by show 5 ≤ sizeLine; decide, fun l2 hl2 nl2 => ?_⟩
      have e17 := same_upd (o := .lst [V.str "y:a z:b > x:ab", .int 1, .str "y:b > z:ab", .str "x:a y:b >", .bl false]) (Same.refl H16) hl2
      have k17 : (upd H16 l2 (.lst [V.str "y:a z:b > x:ab", .int 1, .str "y:b > z:ab", .str "x:a y:b >", .bl false])) l2 = _ := upd_same
      generalize upd H16 l2 (.lst [V.str "y:a z:b > x:ab", .int 1, .str "y:b > z:ab", .str "x:a y:b >", .bl false]) = H17 at e17 k17
      refine ⟨.list [.str (strP (rnP lawL lawP) (rnP lawL lawQ)), .int ((if 1 < (rnP lawL lawP).length then 1 else 1 - (rnP lawL lawP).length : Nat) : Int), .str (strP (lessP "x" lawP) (lessP "x" lawQ)), .str (strP (lessP "z" lawP) (lessP "z" lawQ)), .bool (decide (lawP = rnP lawL lawP ∧ lawQ = rnP lawL lawQ))], .list [.str "y:a z:b > x:ab", .int 1, .str "y:b > z:ab", .str "x:a y:b >", .bool false],
        .lst (e17 _ _ k16) nl1 (.cons (.str _ ⟨by decide +kernel, by decide +kernel⟩) (.cons (.int _ (by decide +kernel) (by decide +kernel)) (.cons (.str _ ⟨by decide +kernel, by decide +kernel⟩) (.cons (.str _ ⟨by decide +kernel, by decide +kernel⟩) (.cons (.bl _) .nil))))),
        .lst k17 nl2 (.cons (.str _ ⟨by decide +kernel, by decide +kernel⟩) (.cons (.int _ (by decide +kernel) (by decide +kernel)) (.cons (.str _ ⟨by decide +kernel, by decide +kernel⟩) (.cons (.str _ ⟨by decide +kernel, by decide +kernel⟩) (.cons (.bl _) .nil))))), by decide +kernel, by decide +kernel, ?_⟩
      rw [show PyData.eqv (.list [.str (strP (rnP lawL lawP) (rnP lawL lawQ)), .int ((if 1 < (rnP lawL lawP).length then 1 else 1 - (rnP lawL lawP).length : Nat) : Int), .str (strP (lessP "x" lawP) (lessP "x" lawQ)), .str (strP (lessP "z" lawP) (lessP "z" lawQ)), .bool (decide (lawP = rnP lawL lawP ∧ lawQ = rnP lawL lawQ))]) (.list [.str "y:a z:b > x:ab", .int 1, .str "y:b > z:ab", .str "x:a y:b >", .bool false]) = true by decide +kernel]
      exact k _
end
end Fs
namespace Fs
open PySem PySem.Spec PyProof.Rows L2 SlX RZ StX
/-! ### the head's facts -/
section
variable {K : PySem.W.Frag} {mg : Str → Option Value}
theorem fn_cls {g : Addr} (h : PySem.W.isFn K (.ref g) = true) : ∃ og, K.lookup g = some og ∧ og.cls = .type "function" := by
  unfold PySem.W.isFn PySem.W.typeIn at h
  obtain ⟨o, ho, hc⟩ := Option.map_eq_some_iff.mp (eq_of_beq h)
  exact ⟨o, ho, hc⟩
theorem kit_self {C : Addr} : PySem.W.kitOne K (.ref C) (.ref C) = some true := by
  unfold PySem.W.kitOne
  rw [if_pos (beq_self_eq_true _)]
theorem kit_list {C : Addr} (h2 : PySem.W.isClsIn K C = true) (h3 : PySem.W.typeIn K (.ref C) = some (.type "type")) (h4 : PySem.W.subIn K (.type "list") (.ref C) = some false) : PySem.W.kitOne K (.type "list") (.ref C) = some false := by
  have h5 : (PySem.W.clsIn K C).isSome = true := h2
  have e1 : ((Value.type "list") == (Value.ref C)) = false := rfl
  have e2 : ((PySem.W.clsIn K C).isSome && PySem.W.typeIn K (.ref C) == some (.type "type")) = true := by rw [h5, h3]; rfl
  unfold PySem.W.kitOne
  rw [e1, if_neg Bool.false_ne_true]
  show (if ((PySem.W.clsIn K C).isSome && PySem.W.typeIn K (.ref C) == some (.type "type")) = true then PySem.W.subIn K (.type "list") (.ref C) else none) = some false
  rw [if_pos e2, h4]
/-- a def with a last default None -/
theorem dfd_mk {x : Str} {st : Stmt} {f T : Addr} {oc ocT : Value} {od odT an : Option Addr} {osl slT : Array (Option Value)} {n : Nat} {kV doc pm cdv ct : Value} {a b c : Str} (hm : mg x = some (.ref f))
    (l : K.lookup f = some ⟨oc, od, .func (PySem.W.fnOf x x (defArgs st) (defBody st) (defScope st) (.ref T) kV doc pm an cdv ct), osl⟩) (lT : K.lookup T = some ⟨ocT, odT, .seq #[.none] n, slT⟩)
    (hc : PySem.W.codeIn K cdv x = true) (hk : PySem.W.keepIn K (.ref f) = true)
    (h3 : ∀ (T : Addr) (kV doc pm : Value) (an : Option Addr) (cdv ct : Value) (us its : List Value), us.length = 3 → its.length = 1 →
      ∃ k, bindArgs (PySem.W.fnOf x x (defArgs st) (defBody st) (defScope st) (.ref T) kV doc pm an cdv ct) ⟨us, []⟩ = seqItems? (.ref T) >>= k ∧ k (some its.toArray) = pure ([a, b, c].zip (us ++ its.drop 1)))
    (h2 : ∀ (T : Addr) (kV doc pm : Value) (an : Option Addr) (cdv ct : Value) (us its : List Value), us.length = 2 → its.length = 1 →
      ∃ k, bindArgs (PySem.W.fnOf x x (defArgs st) (defBody st) (defScope st) (.ref T) kV doc pm an cdv ct) ⟨us, []⟩ = seqItems? (.ref T) >>= k ∧ k (some its.toArray) = pure ([a, b, c].zip (us ++ its.drop 0))) :
    DfD K mg x st [a, b, c] := by
  have F : FunD K x x (defArgs st) (defBody st) (defScope st) [.non] [] f _ := ⟨⟨oc, od, .ref T, kV, doc, pm, an, cdv, ct, osl, rfl, l, hc, .inr ⟨by simp, T, _, [.none], n, rfl, lT, rfl, .cons rfl .nil⟩, .inl rfl⟩, hk⟩
  obtain ⟨d3, r3, b3⟩ := F.binds1 (ps := [a, b, c]) 3 1 (by simp) rfl h3
  obtain ⟨d2, r2, b2⟩ := F.binds1 (ps := [a, b, c]) 2 0 (by simp) rfl h2
  have e3 : d3 = [] := by
    cases r3
    rfl
  have e2 : d2 = [Value.none] := by
    cases r2 with
    | cons r t =>
      cases t
      have r : RelV V.non _ := r
      cases r
      rfl
  rw [e3] at b3
  rw [e2] at b2
  exact ⟨f, _, F, hm, b3, b2⟩
end
end Fs
namespace Fs
open PySem PySem.Spec PyProof.Rows L2 SlX
theorem all_mk {l : PySem.W.OpenLaw} {w : World} {K : PySem.W.Frag} {h : Heap} {mg : Str → Option Value} {fa : Addr} (X : K.In h) (G : h.Ns mainGlobals mg) (hfa : mg "law" = some (.ref fa))
    {f_dip f_choose f_shuffled f_name f_free f_names f_signs f_parts f_filled f_p_name f_p_signs f_p_part f_p_parts f_p_streams f_p_ren f_p_known f_word f_text f_is_told f_words_right f_renamed f_less f_more f_deed f_right f_law C SO NC p0 p1 p2 p3 q0 f_pr_sources q1 f_pr_sinks q2 f_pr_names f_init f_m_signs_of f_m_is_source f_m_index_of f_m_is_content f_m_is_filling f_m_steps_of f_m_renamed f_m_without f_m_add f_m_contains f_m_len f_m_eq f_m_str f_p_word T_p_word f_p_words T_p_words : Addr}
    {od_dip : Option Addr} {an_dip : Option Addr} {sl_dip : Array (Option Value)} {oc_dip kv_dip dc_dip pm_dip cd_dip ct_dip : Value} {od_choose : Option Addr} {an_choose : Option Addr} {sl_choose : Array (Option Value)} {oc_choose kv_choose dc_choose pm_choose cd_choose ct_choose : Value}
    {od_shuffled : Option Addr} {an_shuffled : Option Addr} {sl_shuffled : Array (Option Value)} {oc_shuffled kv_shuffled dc_shuffled pm_shuffled cd_shuffled ct_shuffled : Value} {od_name : Option Addr} {an_name : Option Addr} {sl_name : Array (Option Value)} {oc_name kv_name dc_name pm_name cd_name ct_name : Value}
    {od_free : Option Addr} {an_free : Option Addr} {sl_free : Array (Option Value)} {oc_free kv_free dc_free pm_free cd_free ct_free : Value} {od_names : Option Addr} {an_names : Option Addr} {sl_names : Array (Option Value)} {oc_names kv_names dc_names pm_names cd_names ct_names : Value}
    {od_signs : Option Addr} {an_signs : Option Addr} {sl_signs : Array (Option Value)} {oc_signs kv_signs dc_signs pm_signs cd_signs ct_signs : Value} {od_parts : Option Addr} {an_parts : Option Addr} {sl_parts : Array (Option Value)} {oc_parts kv_parts dc_parts pm_parts cd_parts ct_parts : Value}
    {od_filled : Option Addr} {an_filled : Option Addr} {sl_filled : Array (Option Value)} {oc_filled kv_filled dc_filled pm_filled cd_filled ct_filled : Value} {od_p_name : Option Addr} {an_p_name : Option Addr} {sl_p_name : Array (Option Value)} {oc_p_name kv_p_name dc_p_name pm_p_name cd_p_name ct_p_name : Value}
    {od_p_signs : Option Addr} {an_p_signs : Option Addr} {sl_p_signs : Array (Option Value)} {oc_p_signs kv_p_signs dc_p_signs pm_p_signs cd_p_signs ct_p_signs : Value} {od_p_part : Option Addr} {an_p_part : Option Addr} {sl_p_part : Array (Option Value)} {oc_p_part kv_p_part dc_p_part pm_p_part cd_p_part ct_p_part : Value}
    {od_p_parts : Option Addr} {an_p_parts : Option Addr} {sl_p_parts : Array (Option Value)} {oc_p_parts kv_p_parts dc_p_parts pm_p_parts cd_p_parts ct_p_parts : Value} {od_p_streams : Option Addr} {an_p_streams : Option Addr} {sl_p_streams : Array (Option Value)} {oc_p_streams kv_p_streams dc_p_streams pm_p_streams cd_p_streams ct_p_streams : Value}
    {od_p_ren : Option Addr} {an_p_ren : Option Addr} {sl_p_ren : Array (Option Value)} {oc_p_ren kv_p_ren dc_p_ren pm_p_ren cd_p_ren ct_p_ren : Value} {od_p_known : Option Addr} {an_p_known : Option Addr} {sl_p_known : Array (Option Value)} {oc_p_known kv_p_known dc_p_known pm_p_known cd_p_known ct_p_known : Value}
    {od_word : Option Addr} {an_word : Option Addr} {sl_word : Array (Option Value)} {oc_word kv_word dc_word pm_word cd_word ct_word : Value} {od_text : Option Addr} {an_text : Option Addr} {sl_text : Array (Option Value)} {oc_text kv_text dc_text pm_text cd_text ct_text : Value}
    {od_is_told : Option Addr} {an_is_told : Option Addr} {sl_is_told : Array (Option Value)} {oc_is_told kv_is_told dc_is_told pm_is_told cd_is_told ct_is_told : Value} {od_words_right : Option Addr} {an_words_right : Option Addr} {sl_words_right : Array (Option Value)} {oc_words_right kv_words_right dc_words_right pm_words_right cd_words_right ct_words_right : Value}
    {od_renamed : Option Addr} {an_renamed : Option Addr} {sl_renamed : Array (Option Value)} {oc_renamed kv_renamed dc_renamed pm_renamed cd_renamed ct_renamed : Value} {od_less : Option Addr} {an_less : Option Addr} {sl_less : Array (Option Value)} {oc_less kv_less dc_less pm_less cd_less ct_less : Value}
    {od_more : Option Addr} {an_more : Option Addr} {sl_more : Array (Option Value)} {oc_more kv_more dc_more pm_more cd_more ct_more : Value} {od_deed : Option Addr} {an_deed : Option Addr} {sl_deed : Array (Option Value)} {oc_deed kv_deed dc_deed pm_deed cd_deed ct_deed : Value}
    {od_right : Option Addr} {an_right : Option Addr} {sl_right : Array (Option Value)} {oc_right kv_right dc_right pm_right cd_right ct_right : Value} {od_law : Option Addr} {an_law : Option Addr} {sl_law : Array (Option Value)} {oc_law kv_law dc_law pm_law cd_law ct_law : Value}
    {t_LETTERS : Tok} {t_END : Tok} {t_MAX_NAME : Tok} {t_MAX_SIGNS : Tok} {t_MAX_STREAMS : Tok} {nmC qC : Str} {bsC : List Value} {hdC abC : Bool}
    {snC : List Str} {subC : List Value} {colC : Option Bool} {ddC : Option Addr} {k0C k1C k2C k3C k5C : Option Value} {newC : String} {rest0 : List Value} {od_pr_sources : Option Addr}
    {an_pr_sources : Option Addr} {sl_pr_sources : Array (Option Value)} {oc_pr_sources kv_pr_sources dc_pr_sources pm_pr_sources cd_pr_sources ct_pr_sources : Value} {rest1 : List Value} {od_pr_sinks : Option Addr} {an_pr_sinks : Option Addr} {sl_pr_sinks : Array (Option Value)} {oc_pr_sinks kv_pr_sinks dc_pr_sinks pm_pr_sinks cd_pr_sinks ct_pr_sinks : Value}
    {rest2 : List Value} {od_pr_names : Option Addr} {an_pr_names : Option Addr} {sl_pr_names : Array (Option Value)} {oc_pr_names kv_pr_names dc_pr_names pm_pr_names cd_pr_names ct_pr_names : Value} {od_init : Option Addr} {an_init : Option Addr} {sl_init : Array (Option Value)}
    {oc_init kv_init dc_init pm_init cd_init ct_init : Value} {od_m_signs_of : Option Addr} {an_m_signs_of : Option Addr} {sl_m_signs_of : Array (Option Value)} {oc_m_signs_of kv_m_signs_of dc_m_signs_of pm_m_signs_of cd_m_signs_of ct_m_signs_of : Value} {od_m_is_source : Option Addr} {an_m_is_source : Option Addr} {sl_m_is_source : Array (Option Value)}
    {oc_m_is_source kv_m_is_source dc_m_is_source pm_m_is_source cd_m_is_source ct_m_is_source : Value} {od_m_index_of : Option Addr} {an_m_index_of : Option Addr} {sl_m_index_of : Array (Option Value)} {oc_m_index_of kv_m_index_of dc_m_index_of pm_m_index_of cd_m_index_of ct_m_index_of : Value} {od_m_is_content : Option Addr} {an_m_is_content : Option Addr} {sl_m_is_content : Array (Option Value)}
    {oc_m_is_content kv_m_is_content dc_m_is_content pm_m_is_content cd_m_is_content ct_m_is_content : Value} {od_m_is_filling : Option Addr} {an_m_is_filling : Option Addr} {sl_m_is_filling : Array (Option Value)} {oc_m_is_filling kv_m_is_filling dc_m_is_filling pm_m_is_filling cd_m_is_filling ct_m_is_filling : Value} {od_m_steps_of : Option Addr} {an_m_steps_of : Option Addr} {sl_m_steps_of : Array (Option Value)}
    {oc_m_steps_of kv_m_steps_of dc_m_steps_of pm_m_steps_of cd_m_steps_of ct_m_steps_of : Value} {od_m_renamed : Option Addr} {an_m_renamed : Option Addr} {sl_m_renamed : Array (Option Value)} {oc_m_renamed kv_m_renamed dc_m_renamed pm_m_renamed cd_m_renamed ct_m_renamed : Value} {od_m_without : Option Addr} {an_m_without : Option Addr} {sl_m_without : Array (Option Value)}
    {oc_m_without kv_m_without dc_m_without pm_m_without cd_m_without ct_m_without : Value} {od_m_add : Option Addr} {an_m_add : Option Addr} {sl_m_add : Array (Option Value)} {oc_m_add kv_m_add dc_m_add pm_m_add cd_m_add ct_m_add : Value} {od_m_contains : Option Addr} {an_m_contains : Option Addr} {sl_m_contains : Array (Option Value)}
    {oc_m_contains kv_m_contains dc_m_contains pm_m_contains cd_m_contains ct_m_contains : Value} {od_m_len : Option Addr} {an_m_len : Option Addr} {sl_m_len : Array (Option Value)} {oc_m_len kv_m_len dc_m_len pm_m_len cd_m_len ct_m_len : Value} {od_m_eq : Option Addr} {an_m_eq : Option Addr} {sl_m_eq : Array (Option Value)}
    {oc_m_eq kv_m_eq dc_m_eq pm_m_eq cd_m_eq ct_m_eq : Value} {od_m_str : Option Addr} {an_m_str : Option Addr} {sl_m_str : Array (Option Value)} {oc_m_str kv_m_str dc_m_str pm_m_str cd_m_str ct_m_str : Value} {od_p_word odT_p_word an_p_word : Option Addr} {sl_p_word slT_p_word : Array (Option Value)} {oc_p_word ocT_p_word kv_p_word dc_p_word pm_p_word cd_p_word ct_p_word : Value}
    {nT_p_word : Nat} {od_p_words odT_p_words an_p_words : Option Addr} {sl_p_words slT_p_words : Array (Option Value)} {oc_p_words ocT_p_words kv_p_words dc_p_words pm_p_words cd_p_words ct_p_words : Value} {nT_p_words : Nat}
    (a_dip : PySem.W.nsIn K mainGlobals "_law_dip" = some (some (.ref f_dip)))
    (l_dip : K.lookup f_dip = some ⟨oc_dip, od_dip, .func (PySem.W.fnOf "_law_dip" "_law_dip" (defArgs s_dip) (defBody s_dip) (defScope s_dip) .none kv_dip dc_dip pm_dip an_dip cd_dip ct_dip), sl_dip⟩)
    (c_dip : PySem.W.codeIn K cd_dip "_law_dip" = true)
    (k_dip : PySem.W.keepIn K (.ref f_dip) = true)
    (a_choose : PySem.W.nsIn K mainGlobals "_law_choose" = some (some (.ref f_choose)))
    (l_choose : K.lookup f_choose = some ⟨oc_choose, od_choose, .func (PySem.W.fnOf "_law_choose" "_law_choose" (defArgs s_choose) (defBody s_choose) (defScope s_choose) .none kv_choose dc_choose pm_choose an_choose cd_choose ct_choose), sl_choose⟩)
    (c_choose : PySem.W.codeIn K cd_choose "_law_choose" = true)
    (k_choose : PySem.W.keepIn K (.ref f_choose) = true)
    (a_shuffled : PySem.W.nsIn K mainGlobals "_law_shuffled" = some (some (.ref f_shuffled)))
    (l_shuffled : K.lookup f_shuffled = some ⟨oc_shuffled, od_shuffled, .func (PySem.W.fnOf "_law_shuffled" "_law_shuffled" (defArgs s_shuffled) (defBody s_shuffled) (defScope s_shuffled) .none kv_shuffled dc_shuffled pm_shuffled an_shuffled cd_shuffled ct_shuffled), sl_shuffled⟩)
    (c_shuffled : PySem.W.codeIn K cd_shuffled "_law_shuffled" = true)
    (k_shuffled : PySem.W.keepIn K (.ref f_shuffled) = true)
    (a_name : PySem.W.nsIn K mainGlobals "_law_name" = some (some (.ref f_name)))
    (l_name : K.lookup f_name = some ⟨oc_name, od_name, .func (PySem.W.fnOf "_law_name" "_law_name" (defArgs s_name) (defBody s_name) (defScope s_name) .none kv_name dc_name pm_name an_name cd_name ct_name), sl_name⟩)
    (c_name : PySem.W.codeIn K cd_name "_law_name" = true)
    (k_name : PySem.W.keepIn K (.ref f_name) = true)
    (a_free : PySem.W.nsIn K mainGlobals "_law_free" = some (some (.ref f_free)))
    (l_free : K.lookup f_free = some ⟨oc_free, od_free, .func (PySem.W.fnOf "_law_free" "_law_free" (defArgs s_free) (defBody s_free) (defScope s_free) .none kv_free dc_free pm_free an_free cd_free ct_free), sl_free⟩)
    (c_free : PySem.W.codeIn K cd_free "_law_free" = true)
    (k_free : PySem.W.keepIn K (.ref f_free) = true)
    (a_names : PySem.W.nsIn K mainGlobals "_law_names" = some (some (.ref f_names)))
    (l_names : K.lookup f_names = some ⟨oc_names, od_names, .func (PySem.W.fnOf "_law_names" "_law_names" (defArgs s_names) (defBody s_names) (defScope s_names) .none kv_names dc_names pm_names an_names cd_names ct_names), sl_names⟩)
    (c_names : PySem.W.codeIn K cd_names "_law_names" = true)
    (k_names : PySem.W.keepIn K (.ref f_names) = true)
    (a_signs : PySem.W.nsIn K mainGlobals "_law_signs" = some (some (.ref f_signs)))
    (l_signs : K.lookup f_signs = some ⟨oc_signs, od_signs, .func (PySem.W.fnOf "_law_signs" "_law_signs" (defArgs s_signs) (defBody s_signs) (defScope s_signs) .none kv_signs dc_signs pm_signs an_signs cd_signs ct_signs), sl_signs⟩)
    (c_signs : PySem.W.codeIn K cd_signs "_law_signs" = true)
    (k_signs : PySem.W.keepIn K (.ref f_signs) = true)
    (a_parts : PySem.W.nsIn K mainGlobals "_law_parts" = some (some (.ref f_parts)))
    (l_parts : K.lookup f_parts = some ⟨oc_parts, od_parts, .func (PySem.W.fnOf "_law_parts" "_law_parts" (defArgs s_parts) (defBody s_parts) (defScope s_parts) .none kv_parts dc_parts pm_parts an_parts cd_parts ct_parts), sl_parts⟩)
    (c_parts : PySem.W.codeIn K cd_parts "_law_parts" = true)
    (k_parts : PySem.W.keepIn K (.ref f_parts) = true)
    (a_filled : PySem.W.nsIn K mainGlobals "_law_filled" = some (some (.ref f_filled)))
    (l_filled : K.lookup f_filled = some ⟨oc_filled, od_filled, .func (PySem.W.fnOf "_law_filled" "_law_filled" (defArgs s_filled) (defBody s_filled) (defScope s_filled) .none kv_filled dc_filled pm_filled an_filled cd_filled ct_filled), sl_filled⟩)
    (c_filled : PySem.W.codeIn K cd_filled "_law_filled" = true)
    (k_filled : PySem.W.keepIn K (.ref f_filled) = true)
    (a_p_name : PySem.W.nsIn K mainGlobals "is_name" = some (some (.ref f_p_name)))
    (l_p_name : K.lookup f_p_name = some ⟨oc_p_name, od_p_name, .func (PySem.W.fnOf "is_name" "is_name" (defArgs s_p_name) (defBody s_p_name) (defScope s_p_name) .none kv_p_name dc_p_name pm_p_name an_p_name cd_p_name ct_p_name), sl_p_name⟩)
    (c_p_name : PySem.W.codeIn K cd_p_name "is_name" = true)
    (k_p_name : PySem.W.keepIn K (.ref f_p_name) = true)
    (a_p_signs : PySem.W.nsIn K mainGlobals "is_signs" = some (some (.ref f_p_signs)))
    (l_p_signs : K.lookup f_p_signs = some ⟨oc_p_signs, od_p_signs, .func (PySem.W.fnOf "is_signs" "is_signs" (defArgs s_p_signs) (defBody s_p_signs) (defScope s_p_signs) .none kv_p_signs dc_p_signs pm_p_signs an_p_signs cd_p_signs ct_p_signs), sl_p_signs⟩)
    (c_p_signs : PySem.W.codeIn K cd_p_signs "is_signs" = true)
    (k_p_signs : PySem.W.keepIn K (.ref f_p_signs) = true)
    (a_p_part : PySem.W.nsIn K mainGlobals "is_part" = some (some (.ref f_p_part)))
    (l_p_part : K.lookup f_p_part = some ⟨oc_p_part, od_p_part, .func (PySem.W.fnOf "is_part" "is_part" (defArgs s_p_part) (defBody s_p_part) (defScope s_p_part) .none kv_p_part dc_p_part pm_p_part an_p_part cd_p_part ct_p_part), sl_p_part⟩)
    (c_p_part : PySem.W.codeIn K cd_p_part "is_part" = true)
    (k_p_part : PySem.W.keepIn K (.ref f_p_part) = true)
    (a_p_parts : PySem.W.nsIn K mainGlobals "are_parts" = some (some (.ref f_p_parts)))
    (l_p_parts : K.lookup f_p_parts = some ⟨oc_p_parts, od_p_parts, .func (PySem.W.fnOf "are_parts" "are_parts" (defArgs s_p_parts) (defBody s_p_parts) (defScope s_p_parts) .none kv_p_parts dc_p_parts pm_p_parts an_p_parts cd_p_parts ct_p_parts), sl_p_parts⟩)
    (c_p_parts : PySem.W.codeIn K cd_p_parts "are_parts" = true)
    (k_p_parts : PySem.W.keepIn K (.ref f_p_parts) = true)
    (a_p_streams : PySem.W.nsIn K mainGlobals "are_streams" = some (some (.ref f_p_streams)))
    (l_p_streams : K.lookup f_p_streams = some ⟨oc_p_streams, od_p_streams, .func (PySem.W.fnOf "are_streams" "are_streams" (defArgs s_p_streams) (defBody s_p_streams) (defScope s_p_streams) .none kv_p_streams dc_p_streams pm_p_streams an_p_streams cd_p_streams ct_p_streams), sl_p_streams⟩)
    (c_p_streams : PySem.W.codeIn K cd_p_streams "are_streams" = true)
    (k_p_streams : PySem.W.keepIn K (.ref f_p_streams) = true)
    (a_p_ren : PySem.W.nsIn K mainGlobals "is_renaming" = some (some (.ref f_p_ren)))
    (l_p_ren : K.lookup f_p_ren = some ⟨oc_p_ren, od_p_ren, .func (PySem.W.fnOf "is_renaming" "is_renaming" (defArgs s_p_ren) (defBody s_p_ren) (defScope s_p_ren) .none kv_p_ren dc_p_ren pm_p_ren an_p_ren cd_p_ren ct_p_ren), sl_p_ren⟩)
    (c_p_ren : PySem.W.codeIn K cd_p_ren "is_renaming" = true)
    (k_p_ren : PySem.W.keepIn K (.ref f_p_ren) = true)
    (a_p_known : PySem.W.nsIn K mainGlobals "require_known" = some (some (.ref f_p_known)))
    (l_p_known : K.lookup f_p_known = some ⟨oc_p_known, od_p_known, .func (PySem.W.fnOf "require_known" "require_known" (defArgs s_p_known) (defBody s_p_known) (defScope s_p_known) .none kv_p_known dc_p_known pm_p_known an_p_known cd_p_known ct_p_known), sl_p_known⟩)
    (c_p_known : PySem.W.codeIn K cd_p_known "require_known" = true)
    (k_p_known : PySem.W.keepIn K (.ref f_p_known) = true)
    (a_word : PySem.W.nsIn K mainGlobals "_law_word" = some (some (.ref f_word)))
    (l_word : K.lookup f_word = some ⟨oc_word, od_word, .func (PySem.W.fnOf "_law_word" "_law_word" (defArgs s_word) (defBody s_word) (defScope s_word) .none kv_word dc_word pm_word an_word cd_word ct_word), sl_word⟩)
    (c_word : PySem.W.codeIn K cd_word "_law_word" = true)
    (k_word : PySem.W.keepIn K (.ref f_word) = true)
    (a_text : PySem.W.nsIn K mainGlobals "_law_text" = some (some (.ref f_text)))
    (l_text : K.lookup f_text = some ⟨oc_text, od_text, .func (PySem.W.fnOf "_law_text" "_law_text" (defArgs s_text) (defBody s_text) (defScope s_text) .none kv_text dc_text pm_text an_text cd_text ct_text), sl_text⟩)
    (c_text : PySem.W.codeIn K cd_text "_law_text" = true)
    (k_text : PySem.W.keepIn K (.ref f_text) = true)
    (a_is_told : PySem.W.nsIn K mainGlobals "_law_is_told" = some (some (.ref f_is_told)))
    (l_is_told : K.lookup f_is_told = some ⟨oc_is_told, od_is_told, .func (PySem.W.fnOf "_law_is_told" "_law_is_told" (defArgs s_is_told) (defBody s_is_told) (defScope s_is_told) .none kv_is_told dc_is_told pm_is_told an_is_told cd_is_told ct_is_told), sl_is_told⟩)
    (c_is_told : PySem.W.codeIn K cd_is_told "_law_is_told" = true)
    (k_is_told : PySem.W.keepIn K (.ref f_is_told) = true)
    (a_words_right : PySem.W.nsIn K mainGlobals "_law_words_right" = some (some (.ref f_words_right)))
    (l_words_right : K.lookup f_words_right = some ⟨oc_words_right, od_words_right, .func (PySem.W.fnOf "_law_words_right" "_law_words_right" (defArgs s_words_right) (defBody s_words_right) (defScope s_words_right) .none kv_words_right dc_words_right pm_words_right an_words_right cd_words_right ct_words_right), sl_words_right⟩)
    (c_words_right : PySem.W.codeIn K cd_words_right "_law_words_right" = true)
    (k_words_right : PySem.W.keepIn K (.ref f_words_right) = true)
    (a_renamed : PySem.W.nsIn K mainGlobals "_law_renamed" = some (some (.ref f_renamed)))
    (l_renamed : K.lookup f_renamed = some ⟨oc_renamed, od_renamed, .func (PySem.W.fnOf "_law_renamed" "_law_renamed" (defArgs s_renamed) (defBody s_renamed) (defScope s_renamed) .none kv_renamed dc_renamed pm_renamed an_renamed cd_renamed ct_renamed), sl_renamed⟩)
    (c_renamed : PySem.W.codeIn K cd_renamed "_law_renamed" = true)
    (k_renamed : PySem.W.keepIn K (.ref f_renamed) = true)
    (a_less : PySem.W.nsIn K mainGlobals "_law_less" = some (some (.ref f_less)))
    (l_less : K.lookup f_less = some ⟨oc_less, od_less, .func (PySem.W.fnOf "_law_less" "_law_less" (defArgs s_less) (defBody s_less) (defScope s_less) .none kv_less dc_less pm_less an_less cd_less ct_less), sl_less⟩)
    (c_less : PySem.W.codeIn K cd_less "_law_less" = true)
    (k_less : PySem.W.keepIn K (.ref f_less) = true)
    (a_more : PySem.W.nsIn K mainGlobals "_law_more" = some (some (.ref f_more)))
    (l_more : K.lookup f_more = some ⟨oc_more, od_more, .func (PySem.W.fnOf "_law_more" "_law_more" (defArgs s_more) (defBody s_more) (defScope s_more) .none kv_more dc_more pm_more an_more cd_more ct_more), sl_more⟩)
    (c_more : PySem.W.codeIn K cd_more "_law_more" = true)
    (k_more : PySem.W.keepIn K (.ref f_more) = true)
    (a_deed : PySem.W.nsIn K mainGlobals "_law_deed" = some (some (.ref f_deed)))
    (l_deed : K.lookup f_deed = some ⟨oc_deed, od_deed, .func (PySem.W.fnOf "_law_deed" "_law_deed" (defArgs s_deed) (defBody s_deed) (defScope s_deed) .none kv_deed dc_deed pm_deed an_deed cd_deed ct_deed), sl_deed⟩)
    (c_deed : PySem.W.codeIn K cd_deed "_law_deed" = true)
    (k_deed : PySem.W.keepIn K (.ref f_deed) = true)
    (a_right : PySem.W.nsIn K mainGlobals "_law_right" = some (some (.ref f_right)))
    (l_right : K.lookup f_right = some ⟨oc_right, od_right, .func (PySem.W.fnOf "_law_right" "_law_right" (defArgs s_right) (defBody s_right) (defScope s_right) .none kv_right dc_right pm_right an_right cd_right ct_right), sl_right⟩)
    (c_right : PySem.W.codeIn K cd_right "_law_right" = true)
    (k_right : PySem.W.keepIn K (.ref f_right) = true)
    (a_law : PySem.W.nsIn K mainGlobals "law" = some (some (.ref f_law)))
    (l_law : K.lookup f_law = some ⟨oc_law, od_law, .func (PySem.W.fnOf "law" "law" (defArgs s_law) (defBody s_law) (defScope s_law) .none kv_law dc_law pm_law an_law cd_law ct_law), sl_law⟩)
    (c_law : PySem.W.codeIn K cd_law "law" = true)
    (k_law : PySem.W.keepIn K (.ref f_law) = true)
    (z_len : PySem.W.nsIn K mainGlobals "len" = some none)
    (z_int : PySem.W.nsIn K mainGlobals "int" = some none)
    (z_abs : PySem.W.nsIn K mainGlobals "abs" = some none)
    (z_max : PySem.W.nsIn K mainGlobals "max" = some none)
    (z_min : PySem.W.nsIn K mainGlobals "min" = some none)
    (z_list : PySem.W.nsIn K mainGlobals "list" = some none)
    (z_tuple : PySem.W.nsIn K mainGlobals "tuple" = some none)
    (z_range : PySem.W.nsIn K mainGlobals "range" = some none)
    (z_sorted : PySem.W.nsIn K mainGlobals "sorted" = some none)
    (z_isinstance : PySem.W.nsIn K mainGlobals "isinstance" = some none)
    (z_str : PySem.W.nsIn K mainGlobals "str" = some none)
    (z_all : PySem.W.nsIn K mainGlobals "all" = some none)
    (z_zip : PySem.W.nsIn K mainGlobals "zip" = some none)
    (z_set : PySem.W.nsIn K mainGlobals "set" = some none)
    (z_repr : PySem.W.nsIn K mainGlobals "repr" = some none)
    (z_dict : PySem.W.nsIn K mainGlobals "dict" = some none)
    (g_LETTERS : PySem.W.nsIn K mainGlobals "LETTERS" = some (some (.str "abcdefghijklmnopqrstuvwxyz" t_LETTERS)))
    (g_END : PySem.W.nsIn K mainGlobals "END" = some (some (.str "end" t_END)))
    (g_MAX_NAME : PySem.W.nsIn K mainGlobals "MAX_NAME" = some (some (.int 8 t_MAX_NAME)))
    (g_MAX_SIGNS : PySem.W.nsIn K mainGlobals "MAX_SIGNS" = some (some (.int 4 t_MAX_SIGNS)))
    (g_MAX_STREAMS : PySem.W.nsIn K mainGlobals "MAX_STREAMS" = some (some (.int 3 t_MAX_STREAMS)))
    (z_sum : PySem.W.nsIn K mainGlobals "sum" = some none)
    (nC : PySem.W.nsIn K mainGlobals "Streams" = some (some (.ref C)))
    (nO : PySem.W.nsIn K mainGlobals "InvalidOperation" = some (some (.ref SO)))
    (kO : PySem.W.keepIn K (.ref SO) = true)
    (xO : PySem.W.excIn K SO [.type "ValueError", .type "Exception", .type "BaseException", .type "object"] "ValueError.__new__" = true)
    (bO : PySem.W.subIn K (.ref SO) (.type "BaseException") = some true)
    (tO : PySem.W.typeIn K (.ref SO) = some (.type "type"))
    (iO : PySem.W.isClsIn K SO = true)
    (sO : PySem.W.subIn K (.ref SO) (.ref SO) = some true)
    (pg : PySem.W.plainGet K C Str.empty = true)
    (ic : PySem.W.isClsIn K C = true)
    (po : PySem.W.plainOver K C = true)
    (sa : PySem.W.findIn K (.ref C) "__setattr__" = some (some (.builtin "object.__setattr__")))
    (mk : PySem.W.makesIn K C = true)
    (kC : PySem.W.keepIn K (.ref C) = true)
    (tC : PySem.W.typeIn K (.ref C) = some (.type "type"))
    (sL : PySem.W.subIn K (.type "list") (.ref C) = some false)
    (si1 : PySem.W.findIn K (.ref C) "__class__" = some (some (.builtin "object.__class__")))
    (si2 : PySem.W.specialIn K (.builtin "object.__class__") "__get__" = some (some (.builtin "getset_descriptor.__get__")))
    (si3 : PySem.W.takesIn K (.builtin "object.__class__") = some true)
    (si4 : PySem.W.mroIn K C (.type "object") = some true)
    (sf : PySem.W.selfFirst K C = true)
    (nf : PySem.W.notFirst K C (.ref C) = true)
    (nl : PySem.W.notFirst K C (.type "list") = true)
    (l_C : K.lookup C = some (excClassObj nmC qC C NC bsC [.type "object"] hdC snC subC abC colC ddC k0C k1C k2C k3C k5C newC))
    (nsC : PySem.W.nsOkIn K NC = true)
    (nsNe : PySem.W.nsIn K NC "__ne__" = some none)
    (w0 : PySem.W.findIn K (.ref C) "own_sources" = some (some (.ref p0)))
    (w0g : PySem.W.specialIn K (.ref p0) "__get__" = some (some (.builtin "member_descriptor.__get__")))
    (w0k : PySem.W.takesIn K (.ref p0) = some true)
    (w0t : PySem.W.typeIn K (.ref p0) = some (.type "member_descriptor"))
    (w0i : PySem.W.slotIn K p0 C = some 3)
    (w1 : PySem.W.findIn K (.ref C) "own_sinks" = some (some (.ref p1)))
    (w1g : PySem.W.specialIn K (.ref p1) "__get__" = some (some (.builtin "member_descriptor.__get__")))
    (w1k : PySem.W.takesIn K (.ref p1) = some true)
    (w1t : PySem.W.typeIn K (.ref p1) = some (.type "member_descriptor"))
    (w1i : PySem.W.slotIn K p1 C = some 2)
    (w2 : PySem.W.findIn K (.ref C) "own_names" = some (some (.ref p2)))
    (w2g : PySem.W.specialIn K (.ref p2) "__get__" = some (some (.builtin "member_descriptor.__get__")))
    (w2k : PySem.W.takesIn K (.ref p2) = some true)
    (w2t : PySem.W.typeIn K (.ref p2) = some (.type "member_descriptor"))
    (w2i : PySem.W.slotIn K p2 C = some 0)
    (w3 : PySem.W.findIn K (.ref C) "own_signs" = some (some (.ref p3)))
    (w3g : PySem.W.specialIn K (.ref p3) "__get__" = some (some (.builtin "member_descriptor.__get__")))
    (w3k : PySem.W.takesIn K (.ref p3) = some true)
    (w3t : PySem.W.typeIn K (.ref p3) = some (.type "member_descriptor"))
    (w3i : PySem.W.slotIn K p3 C = some 1)
    (u0 : PySem.W.findIn K (.ref C) "sources" = some (some (.ref q0)))
    (u0g : PySem.W.specialIn K (.ref q0) "__get__" = some (some (.builtin "property.__get__")))
    (u0k : PySem.W.takesIn K (.ref q0) = some true)
    (a_pr_sources : PySem.W.recIn K q0 "property" = some (.ref f_pr_sources :: rest0))
    (l_pr_sources : K.lookup f_pr_sources = some ⟨oc_pr_sources, od_pr_sources, .func (PySem.W.fnOf "sources" "Streams.sources" (defArgs s_sources) (defBody s_sources) (defScope s_sources) .none kv_pr_sources dc_pr_sources pm_pr_sources an_pr_sources cd_pr_sources ct_pr_sources), sl_pr_sources⟩)
    (c_pr_sources : PySem.W.codeIn K cd_pr_sources "Streams.sources" = true)
    (k_pr_sources : PySem.W.keepIn K (.ref f_pr_sources) = true)
    (u1 : PySem.W.findIn K (.ref C) "sinks" = some (some (.ref q1)))
    (u1g : PySem.W.specialIn K (.ref q1) "__get__" = some (some (.builtin "property.__get__")))
    (u1k : PySem.W.takesIn K (.ref q1) = some true)
    (a_pr_sinks : PySem.W.recIn K q1 "property" = some (.ref f_pr_sinks :: rest1))
    (l_pr_sinks : K.lookup f_pr_sinks = some ⟨oc_pr_sinks, od_pr_sinks, .func (PySem.W.fnOf "sinks" "Streams.sinks" (defArgs s_sinks) (defBody s_sinks) (defScope s_sinks) .none kv_pr_sinks dc_pr_sinks pm_pr_sinks an_pr_sinks cd_pr_sinks ct_pr_sinks), sl_pr_sinks⟩)
    (c_pr_sinks : PySem.W.codeIn K cd_pr_sinks "Streams.sinks" = true)
    (k_pr_sinks : PySem.W.keepIn K (.ref f_pr_sinks) = true)
    (u2 : PySem.W.findIn K (.ref C) "names" = some (some (.ref q2)))
    (u2g : PySem.W.specialIn K (.ref q2) "__get__" = some (some (.builtin "property.__get__")))
    (u2k : PySem.W.takesIn K (.ref q2) = some true)
    (a_pr_names : PySem.W.recIn K q2 "property" = some (.ref f_pr_names :: rest2))
    (l_pr_names : K.lookup f_pr_names = some ⟨oc_pr_names, od_pr_names, .func (PySem.W.fnOf "names" "Streams.names" (defArgs s_names_of) (defBody s_names_of) (defScope s_names_of) .none kv_pr_names dc_pr_names pm_pr_names an_pr_names cd_pr_names ct_pr_names), sl_pr_names⟩)
    (c_pr_names : PySem.W.codeIn K cd_pr_names "Streams.names" = true)
    (k_pr_names : PySem.W.keepIn K (.ref f_pr_names) = true)
    (a_init : PySem.W.findIn K (.ref C) "__init__" = some (some (.ref f_init)))
    (l_init : K.lookup f_init = some ⟨oc_init, od_init, .func (PySem.W.fnOf "__init__" "Streams.__init__" (defArgs s_init) (defBody s_init) (defScope s_init) .none kv_init dc_init pm_init an_init cd_init ct_init), sl_init⟩)
    (c_init : PySem.W.codeIn K cd_init "Streams.__init__" = true)
    (k_init : PySem.W.keepIn K (.ref f_init) = true)
    (i_init : PySem.W.isFn K (.ref f_init) = true)
    (a_m_signs_of : PySem.W.findIn K (.ref C) "signs_of" = some (some (.ref f_m_signs_of)))
    (l_m_signs_of : K.lookup f_m_signs_of = some ⟨oc_m_signs_of, od_m_signs_of, .func (PySem.W.fnOf "signs_of" "Streams.signs_of" (defArgs s_m_signs_of) (defBody s_m_signs_of) (defScope s_m_signs_of) .none kv_m_signs_of dc_m_signs_of pm_m_signs_of an_m_signs_of cd_m_signs_of ct_m_signs_of), sl_m_signs_of⟩)
    (c_m_signs_of : PySem.W.codeIn K cd_m_signs_of "Streams.signs_of" = true)
    (k_m_signs_of : PySem.W.keepIn K (.ref f_m_signs_of) = true)
    (i_m_signs_of : PySem.W.isFn K (.ref f_m_signs_of) = true)
    (a_m_is_source : PySem.W.findIn K (.ref C) "is_source" = some (some (.ref f_m_is_source)))
    (l_m_is_source : K.lookup f_m_is_source = some ⟨oc_m_is_source, od_m_is_source, .func (PySem.W.fnOf "is_source" "Streams.is_source" (defArgs s_m_is_source) (defBody s_m_is_source) (defScope s_m_is_source) .none kv_m_is_source dc_m_is_source pm_m_is_source an_m_is_source cd_m_is_source ct_m_is_source), sl_m_is_source⟩)
    (c_m_is_source : PySem.W.codeIn K cd_m_is_source "Streams.is_source" = true)
    (k_m_is_source : PySem.W.keepIn K (.ref f_m_is_source) = true)
    (i_m_is_source : PySem.W.isFn K (.ref f_m_is_source) = true)
    (a_m_index_of : PySem.W.findIn K (.ref C) "index_of" = some (some (.ref f_m_index_of)))
    (l_m_index_of : K.lookup f_m_index_of = some ⟨oc_m_index_of, od_m_index_of, .func (PySem.W.fnOf "index_of" "Streams.index_of" (defArgs s_m_index_of) (defBody s_m_index_of) (defScope s_m_index_of) .none kv_m_index_of dc_m_index_of pm_m_index_of an_m_index_of cd_m_index_of ct_m_index_of), sl_m_index_of⟩)
    (c_m_index_of : PySem.W.codeIn K cd_m_index_of "Streams.index_of" = true)
    (k_m_index_of : PySem.W.keepIn K (.ref f_m_index_of) = true)
    (i_m_index_of : PySem.W.isFn K (.ref f_m_index_of) = true)
    (a_m_is_content : PySem.W.findIn K (.ref C) "is_content" = some (some (.ref f_m_is_content)))
    (l_m_is_content : K.lookup f_m_is_content = some ⟨oc_m_is_content, od_m_is_content, .func (PySem.W.fnOf "is_content" "Streams.is_content" (defArgs s_m_is_content) (defBody s_m_is_content) (defScope s_m_is_content) .none kv_m_is_content dc_m_is_content pm_m_is_content an_m_is_content cd_m_is_content ct_m_is_content), sl_m_is_content⟩)
    (c_m_is_content : PySem.W.codeIn K cd_m_is_content "Streams.is_content" = true)
    (k_m_is_content : PySem.W.keepIn K (.ref f_m_is_content) = true)
    (i_m_is_content : PySem.W.isFn K (.ref f_m_is_content) = true)
    (a_m_is_filling : PySem.W.findIn K (.ref C) "is_filling" = some (some (.ref f_m_is_filling)))
    (l_m_is_filling : K.lookup f_m_is_filling = some ⟨oc_m_is_filling, od_m_is_filling, .func (PySem.W.fnOf "is_filling" "Streams.is_filling" (defArgs s_m_is_filling) (defBody s_m_is_filling) (defScope s_m_is_filling) .none kv_m_is_filling dc_m_is_filling pm_m_is_filling an_m_is_filling cd_m_is_filling ct_m_is_filling), sl_m_is_filling⟩)
    (c_m_is_filling : PySem.W.codeIn K cd_m_is_filling "Streams.is_filling" = true)
    (k_m_is_filling : PySem.W.keepIn K (.ref f_m_is_filling) = true)
    (i_m_is_filling : PySem.W.isFn K (.ref f_m_is_filling) = true)
    (a_m_steps_of : PySem.W.findIn K (.ref C) "steps_of" = some (some (.ref f_m_steps_of)))
    (l_m_steps_of : K.lookup f_m_steps_of = some ⟨oc_m_steps_of, od_m_steps_of, .func (PySem.W.fnOf "steps_of" "Streams.steps_of" (defArgs s_m_steps_of) (defBody s_m_steps_of) (defScope s_m_steps_of) .none kv_m_steps_of dc_m_steps_of pm_m_steps_of an_m_steps_of cd_m_steps_of ct_m_steps_of), sl_m_steps_of⟩)
    (c_m_steps_of : PySem.W.codeIn K cd_m_steps_of "Streams.steps_of" = true)
    (k_m_steps_of : PySem.W.keepIn K (.ref f_m_steps_of) = true)
    (i_m_steps_of : PySem.W.isFn K (.ref f_m_steps_of) = true)
    (a_m_renamed : PySem.W.findIn K (.ref C) "renamed" = some (some (.ref f_m_renamed)))
    (l_m_renamed : K.lookup f_m_renamed = some ⟨oc_m_renamed, od_m_renamed, .func (PySem.W.fnOf "renamed" "Streams.renamed" (defArgs s_m_renamed) (defBody s_m_renamed) (defScope s_m_renamed) .none kv_m_renamed dc_m_renamed pm_m_renamed an_m_renamed cd_m_renamed ct_m_renamed), sl_m_renamed⟩)
    (c_m_renamed : PySem.W.codeIn K cd_m_renamed "Streams.renamed" = true)
    (k_m_renamed : PySem.W.keepIn K (.ref f_m_renamed) = true)
    (i_m_renamed : PySem.W.isFn K (.ref f_m_renamed) = true)
    (a_m_without : PySem.W.findIn K (.ref C) "without" = some (some (.ref f_m_without)))
    (l_m_without : K.lookup f_m_without = some ⟨oc_m_without, od_m_without, .func (PySem.W.fnOf "without" "Streams.without" (defArgs s_m_without) (defBody s_m_without) (defScope s_m_without) .none kv_m_without dc_m_without pm_m_without an_m_without cd_m_without ct_m_without), sl_m_without⟩)
    (c_m_without : PySem.W.codeIn K cd_m_without "Streams.without" = true)
    (k_m_without : PySem.W.keepIn K (.ref f_m_without) = true)
    (i_m_without : PySem.W.isFn K (.ref f_m_without) = true)
    (a_m_add : PySem.W.findIn K (.ref C) "__add__" = some (some (.ref f_m_add)))
    (l_m_add : K.lookup f_m_add = some ⟨oc_m_add, od_m_add, .func (PySem.W.fnOf "__add__" "Streams.__add__" (defArgs s_m_add) (defBody s_m_add) (defScope s_m_add) .none kv_m_add dc_m_add pm_m_add an_m_add cd_m_add ct_m_add), sl_m_add⟩)
    (c_m_add : PySem.W.codeIn K cd_m_add "Streams.__add__" = true)
    (k_m_add : PySem.W.keepIn K (.ref f_m_add) = true)
    (i_m_add : PySem.W.isFn K (.ref f_m_add) = true)
    (a_m_contains : PySem.W.findIn K (.ref C) "__contains__" = some (some (.ref f_m_contains)))
    (l_m_contains : K.lookup f_m_contains = some ⟨oc_m_contains, od_m_contains, .func (PySem.W.fnOf "__contains__" "Streams.__contains__" (defArgs s_m_contains) (defBody s_m_contains) (defScope s_m_contains) .none kv_m_contains dc_m_contains pm_m_contains an_m_contains cd_m_contains ct_m_contains), sl_m_contains⟩)
    (c_m_contains : PySem.W.codeIn K cd_m_contains "Streams.__contains__" = true)
    (k_m_contains : PySem.W.keepIn K (.ref f_m_contains) = true)
    (i_m_contains : PySem.W.isFn K (.ref f_m_contains) = true)
    (a_m_len : PySem.W.findIn K (.ref C) "__len__" = some (some (.ref f_m_len)))
    (l_m_len : K.lookup f_m_len = some ⟨oc_m_len, od_m_len, .func (PySem.W.fnOf "__len__" "Streams.__len__" (defArgs s_m_len) (defBody s_m_len) (defScope s_m_len) .none kv_m_len dc_m_len pm_m_len an_m_len cd_m_len ct_m_len), sl_m_len⟩)
    (c_m_len : PySem.W.codeIn K cd_m_len "Streams.__len__" = true)
    (k_m_len : PySem.W.keepIn K (.ref f_m_len) = true)
    (i_m_len : PySem.W.isFn K (.ref f_m_len) = true)
    (a_m_eq : PySem.W.findIn K (.ref C) "__eq__" = some (some (.ref f_m_eq)))
    (l_m_eq : K.lookup f_m_eq = some ⟨oc_m_eq, od_m_eq, .func (PySem.W.fnOf "__eq__" "Streams.__eq__" (defArgs s_m_eq) (defBody s_m_eq) (defScope s_m_eq) .none kv_m_eq dc_m_eq pm_m_eq an_m_eq cd_m_eq ct_m_eq), sl_m_eq⟩)
    (c_m_eq : PySem.W.codeIn K cd_m_eq "Streams.__eq__" = true)
    (k_m_eq : PySem.W.keepIn K (.ref f_m_eq) = true)
    (i_m_eq : PySem.W.isFn K (.ref f_m_eq) = true)
    (a_m_str : PySem.W.findIn K (.ref C) "__str__" = some (some (.ref f_m_str)))
    (l_m_str : K.lookup f_m_str = some ⟨oc_m_str, od_m_str, .func (PySem.W.fnOf "__str__" "Streams.__str__" (defArgs s_m_str) (defBody s_m_str) (defScope s_m_str) .none kv_m_str dc_m_str pm_m_str an_m_str cd_m_str ct_m_str), sl_m_str⟩)
    (c_m_str : PySem.W.codeIn K cd_m_str "Streams.__str__" = true)
    (k_m_str : PySem.W.keepIn K (.ref f_m_str) = true)
    (i_m_str : PySem.W.isFn K (.ref f_m_str) = true)
    (nsEq : PySem.W.nsIn K NC "__eq__" = some (some (.ref f_m_eq)))
    (a_p_word : PySem.W.nsIn K mainGlobals "is_word_of" = some (some (.ref f_p_word)))
    (l_p_word : K.lookup f_p_word = some ⟨oc_p_word, od_p_word, .func (PySem.W.fnOf "is_word_of" "is_word_of" (defArgs s_p_word) (defBody s_p_word) (defScope s_p_word) (.ref T_p_word) kv_p_word dc_p_word pm_p_word an_p_word cd_p_word ct_p_word), sl_p_word⟩)
    (lT_p_word : K.lookup T_p_word = some ⟨ocT_p_word, odT_p_word, .seq #[.none] nT_p_word, slT_p_word⟩)
    (c_p_word : PySem.W.codeIn K cd_p_word "is_word_of" = true)
    (k_p_word : PySem.W.keepIn K (.ref f_p_word) = true)
    (a_p_words : PySem.W.nsIn K mainGlobals "are_words_of" = some (some (.ref f_p_words)))
    (l_p_words : K.lookup f_p_words = some ⟨oc_p_words, od_p_words, .func (PySem.W.fnOf "are_words_of" "are_words_of" (defArgs s_p_words) (defBody s_p_words) (defScope s_p_words) (.ref T_p_words) kv_p_words dc_p_words pm_p_words an_p_words cd_p_words ct_p_words), sl_p_words⟩)
    (lT_p_words : K.lookup T_p_words = some ⟨ocT_p_words, odT_p_words, .seq #[.none] nT_p_words, slT_p_words⟩)
    (c_p_words : PySem.W.codeIn K cd_p_words "are_words_of" = true)
    (k_p_words : PySem.W.keepIn K (.ref f_p_words) = true)
    : ∃ fd : FuncData, (∀ (s : Shared) (v : Value), BindsTo s fd ⟨[v], []⟩ [("script", v)]) ∧ ∀ base : Heap, K.In base → base.Ns mainGlobals mg → FnG l.prog w K mg base CX0 11 fa fd ["script"] (spLaw K) := by
  have e := hfa.symm.trans (PySem.W.mg_of X G a_law)
  cases e
  have F_dip := fun_mk (st := s_dip) l_dip c_dip k_dip
  have b_dip := F_dip.binds (ps := ["pot", "total"]) fun _ _ _ _ _ _ us hl => match us, hl with | [_, _], _ => rfl
  have D_dip : Df K mg "_law_dip" s_dip ["pot", "total"] := ⟨f_dip, _, F_dip, PySem.W.mg_of X G a_dip, b_dip⟩
  have F_choose := fun_mk (st := s_choose) l_choose c_choose k_choose
  have b_choose := F_choose.binds (ps := ["pot", "items"]) fun _ _ _ _ _ _ us hl => match us, hl with | [_, _], _ => rfl
  have D_choose : Df K mg "_law_choose" s_choose ["pot", "items"] := ⟨f_choose, _, F_choose, PySem.W.mg_of X G a_choose, b_choose⟩
  have F_shuffled := fun_mk (st := s_shuffled) l_shuffled c_shuffled k_shuffled
  have b_shuffled := F_shuffled.binds (ps := ["pot", "items"]) fun _ _ _ _ _ _ us hl => match us, hl with | [_, _], _ => rfl
  have D_shuffled : Df K mg "_law_shuffled" s_shuffled ["pot", "items"] := ⟨f_shuffled, _, F_shuffled, PySem.W.mg_of X G a_shuffled, b_shuffled⟩
  have F_name := fun_mk (st := s_name) l_name c_name k_name
  have b_name := F_name.binds (ps := ["pot"]) fun _ _ _ _ _ _ us hl => match us, hl with | [_], _ => rfl
  have D_name : Df K mg "_law_name" s_name ["pot"] := ⟨f_name, _, F_name, PySem.W.mg_of X G a_name, b_name⟩
  have F_free := fun_mk (st := s_free) l_free c_free k_free
  have b_free := F_free.binds (ps := ["names"]) fun _ _ _ _ _ _ us hl => match us, hl with | [_], _ => rfl
  have D_free : Df K mg "_law_free" s_free ["names"] := ⟨f_free, _, F_free, PySem.W.mg_of X G a_free, b_free⟩
  have F_names := fun_mk (st := s_names) l_names c_names k_names
  have b_names := F_names.binds (ps := ["pot", "many"]) fun _ _ _ _ _ _ us hl => match us, hl with | [_, _], _ => rfl
  have D_names : Df K mg "_law_names" s_names ["pot", "many"] := ⟨f_names, _, F_names, PySem.W.mg_of X G a_names, b_names⟩
  have F_signs := fun_mk (st := s_signs) l_signs c_signs k_signs
  have b_signs := F_signs.binds (ps := ["pot"]) fun _ _ _ _ _ _ us hl => match us, hl with | [_], _ => rfl
  have D_signs : Df K mg "_law_signs" s_signs ["pot"] := ⟨f_signs, _, F_signs, PySem.W.mg_of X G a_signs, b_signs⟩
  have F_parts := fun_mk (st := s_parts) l_parts c_parts k_parts
  have b_parts := F_parts.binds (ps := ["pot", "most"]) fun _ _ _ _ _ _ us hl => match us, hl with | [_, _], _ => rfl
  have D_parts : Df K mg "_law_parts" s_parts ["pot", "most"] := ⟨f_parts, _, F_parts, PySem.W.mg_of X G a_parts, b_parts⟩
  have F_filled := fun_mk (st := s_filled) l_filled c_filled k_filled
  have b_filled := F_filled.binds (ps := ["script", "at"]) fun _ _ _ _ _ _ us hl => match us, hl with | [_, _], _ => rfl
  have D_filled : Df K mg "_law_filled" s_filled ["script", "at"] := ⟨f_filled, _, F_filled, PySem.W.mg_of X G a_filled, b_filled⟩
  have F_p_name := fun_mk (st := s_p_name) l_p_name c_p_name k_p_name
  have b_p_name := F_p_name.binds (ps := ["value"]) fun _ _ _ _ _ _ us hl => match us, hl with | [_], _ => rfl
  have D_p_name : Df K mg "is_name" s_p_name ["value"] := ⟨f_p_name, _, F_p_name, PySem.W.mg_of X G a_p_name, b_p_name⟩
  have F_p_signs := fun_mk (st := s_p_signs) l_p_signs c_p_signs k_p_signs
  have b_p_signs := F_p_signs.binds (ps := ["value"]) fun _ _ _ _ _ _ us hl => match us, hl with | [_], _ => rfl
  have D_p_signs : Df K mg "is_signs" s_p_signs ["value"] := ⟨f_p_signs, _, F_p_signs, PySem.W.mg_of X G a_p_signs, b_p_signs⟩
  have F_p_part := fun_mk (st := s_p_part) l_p_part c_p_part k_p_part
  have b_p_part := F_p_part.binds (ps := ["value"]) fun _ _ _ _ _ _ us hl => match us, hl with | [_], _ => rfl
  have D_p_part : Df K mg "is_part" s_p_part ["value"] := ⟨f_p_part, _, F_p_part, PySem.W.mg_of X G a_p_part, b_p_part⟩
  have F_p_parts := fun_mk (st := s_p_parts) l_p_parts c_p_parts k_p_parts
  have b_p_parts := F_p_parts.binds (ps := ["value", "least"]) fun _ _ _ _ _ _ us hl => match us, hl with | [_, _], _ => rfl
  have D_p_parts : Df K mg "are_parts" s_p_parts ["value", "least"] := ⟨f_p_parts, _, F_p_parts, PySem.W.mg_of X G a_p_parts, b_p_parts⟩
  have F_p_streams := fun_mk (st := s_p_streams) l_p_streams c_p_streams k_p_streams
  have b_p_streams := F_p_streams.binds (ps := ["sources", "sinks"]) fun _ _ _ _ _ _ us hl => match us, hl with | [_, _], _ => rfl
  have D_p_streams : Df K mg "are_streams" s_p_streams ["sources", "sinks"] := ⟨f_p_streams, _, F_p_streams, PySem.W.mg_of X G a_p_streams, b_p_streams⟩
  have F_p_ren := fun_mk (st := s_p_ren) l_p_ren c_p_ren k_p_ren
  have b_p_ren := F_p_ren.binds (ps := ["names", "value"]) fun _ _ _ _ _ _ us hl => match us, hl with | [_, _], _ => rfl
  have D_p_ren : Df K mg "is_renaming" s_p_ren ["names", "value"] := ⟨f_p_ren, _, F_p_ren, PySem.W.mg_of X G a_p_ren, b_p_ren⟩
  have F_p_known := fun_mk (st := s_p_known) l_p_known c_p_known k_p_known
  have b_p_known := F_p_known.binds (ps := ["streams", "name"]) fun _ _ _ _ _ _ us hl => match us, hl with | [_, _], _ => rfl
  have D_p_known : Df K mg "require_known" s_p_known ["streams", "name"] := ⟨f_p_known, _, F_p_known, PySem.W.mg_of X G a_p_known, b_p_known⟩
  have F_word := fun_mk (st := s_word) l_word c_word k_word
  have b_word := F_word.binds (ps := ["pot", "signs", "most"]) fun _ _ _ _ _ _ us hl => match us, hl with | [_, _, _], _ => rfl
  have D_word : Df K mg "_law_word" s_word ["pot", "signs", "most"] := ⟨f_word, _, F_word, PySem.W.mg_of X G a_word, b_word⟩
  have F_text := fun_mk (st := s_text) l_text c_text k_text
  have b_text := F_text.binds (ps := ["record"]) fun _ _ _ _ _ _ us hl => match us, hl with | [_], _ => rfl
  have D_text : Df K mg "_law_text" s_text ["record"] := ⟨f_text, _, F_text, PySem.W.mg_of X G a_text, b_text⟩
  have F_is_told := fun_mk (st := s_is_told) l_is_told c_is_told k_is_told
  have b_is_told := F_is_told.binds (ps := ["streams", "record"]) fun _ _ _ _ _ _ us hl => match us, hl with | [_, _], _ => rfl
  have D_is_told : Df K mg "_law_is_told" s_is_told ["streams", "record"] := ⟨f_is_told, _, F_is_told, PySem.W.mg_of X G a_is_told, b_is_told⟩
  have F_words_right := fun_mk (st := s_words_right) l_words_right c_words_right k_words_right
  have b_words_right := F_words_right.binds (ps := ["pot", "streams", "record"]) fun _ _ _ _ _ _ us hl => match us, hl with | [_, _, _], _ => rfl
  have D_words_right : Df K mg "_law_words_right" s_words_right ["pot", "streams", "record"] := ⟨f_words_right, _, F_words_right, PySem.W.mg_of X G a_words_right, b_words_right⟩
  have F_renamed := fun_mk (st := s_renamed) l_renamed c_renamed k_renamed
  have b_renamed := F_renamed.binds (ps := ["pot", "streams", "record"]) fun _ _ _ _ _ _ us hl => match us, hl with | [_, _, _], _ => rfl
  have D_renamed : Df K mg "_law_renamed" s_renamed ["pot", "streams", "record"] := ⟨f_renamed, _, F_renamed, PySem.W.mg_of X G a_renamed, b_renamed⟩
  have F_less := fun_mk (st := s_less) l_less c_less k_less
  have b_less := F_less.binds (ps := ["pot", "streams", "record"]) fun _ _ _ _ _ _ us hl => match us, hl with | [_, _, _], _ => rfl
  have D_less : Df K mg "_law_less" s_less ["pot", "streams", "record"] := ⟨f_less, _, F_less, PySem.W.mg_of X G a_less, b_less⟩
  have F_more := fun_mk (st := s_more) l_more c_more k_more
  have b_more := F_more.binds (ps := ["pot", "streams", "record"]) fun _ _ _ _ _ _ us hl => match us, hl with | [_, _, _], _ => rfl
  have D_more : Df K mg "_law_more" s_more ["pot", "streams", "record"] := ⟨f_more, _, F_more, PySem.W.mg_of X G a_more, b_more⟩
  have F_deed := fun_mk (st := s_deed) l_deed c_deed k_deed
  have b_deed := F_deed.binds (ps := ["pot", "streams", "record"]) fun _ _ _ _ _ _ us hl => match us, hl with | [_, _, _], _ => rfl
  have D_deed : Df K mg "_law_deed" s_deed ["pot", "streams", "record"] := ⟨f_deed, _, F_deed, PySem.W.mg_of X G a_deed, b_deed⟩
  have F_right := fun_mk (st := s_right) l_right c_right k_right
  have b_right := F_right.binds (ps := ["pot"]) fun _ _ _ _ _ _ us hl => match us, hl with | [_], _ => rfl
  have D_right : Df K mg "_law_right" s_right ["pot"] := ⟨f_right, _, F_right, PySem.W.mg_of X G a_right, b_right⟩
  have F_law := fun_mk (st := s_law) l_law c_law k_law
  have b_law := F_law.binds (ps := ["script"]) fun _ _ _ _ _ _ us hl => match us, hl with | [_], _ => rfl
  have T : Bs mg := ⟨PySem.W.mg_none_of X G z_len, PySem.W.mg_none_of X G z_int, PySem.W.mg_none_of X G z_abs, PySem.W.mg_none_of X G z_max, PySem.W.mg_none_of X G z_min, PySem.W.mg_none_of X G z_list, PySem.W.mg_none_of X G z_tuple, PySem.W.mg_none_of X G z_range, PySem.W.mg_none_of X G z_sorted, PySem.W.mg_none_of X G z_isinstance, PySem.W.mg_none_of X G z_str, PySem.W.mg_none_of X G z_all, PySem.W.mg_none_of X G z_zip, PySem.W.mg_none_of X G z_set, PySem.W.mg_none_of X G z_repr, PySem.W.mg_none_of X G z_dict⟩
  have GG : Gs mg := ⟨⟨_, PySem.W.mg_of X G g_LETTERS⟩, ⟨_, PySem.W.mg_of X G g_END⟩, ⟨_, PySem.W.mg_of X G g_MAX_NAME⟩, ⟨_, PySem.W.mg_of X G g_MAX_SIGNS⟩, ⟨_, PySem.W.mg_of X G g_MAX_STREAMS⟩⟩
  have T_sum : mg "sum" = none := PySem.W.mg_none_of X G z_sum
  have F_pr_sources := fun_mk (st := s_sources) l_pr_sources c_pr_sources k_pr_sources
  have b_pr_sources := F_pr_sources.binds (ps := ["self"]) fun _ _ _ _ _ _ us hl => match us, hl with | [_], _ => rfl
  have F_pr_sinks := fun_mk (st := s_sinks) l_pr_sinks c_pr_sinks k_pr_sinks
  have b_pr_sinks := F_pr_sinks.binds (ps := ["self"]) fun _ _ _ _ _ _ us hl => match us, hl with | [_], _ => rfl
  have F_pr_names := fun_mk (st := s_names_of) l_pr_names c_pr_names k_pr_names
  have b_pr_names := F_pr_names.binds (ps := ["self"]) fun _ _ _ _ _ _ us hl => match us, hl with | [_], _ => rfl
  have F_init := fun_mk (st := s_init) l_init c_init k_init
  have b_init := F_init.binds (ps := ["self", "sources", "sinks"]) fun _ _ _ _ _ _ us hl => match us, hl with | [_, _, _], _ => rfl
  have F_m_signs_of := fun_mk (st := s_m_signs_of) l_m_signs_of c_m_signs_of k_m_signs_of
  have b_m_signs_of := F_m_signs_of.binds (ps := ["self", "name"]) fun _ _ _ _ _ _ us hl => match us, hl with | [_, _], _ => rfl
  have F_m_is_source := fun_mk (st := s_m_is_source) l_m_is_source c_m_is_source k_m_is_source
  have b_m_is_source := F_m_is_source.binds (ps := ["self", "name"]) fun _ _ _ _ _ _ us hl => match us, hl with | [_, _], _ => rfl
  have F_m_index_of := fun_mk (st := s_m_index_of) l_m_index_of c_m_index_of k_m_index_of
  have b_m_index_of := F_m_index_of.binds (ps := ["self", "name"]) fun _ _ _ _ _ _ us hl => match us, hl with | [_, _], _ => rfl
  have F_m_is_content := fun_mk (st := s_m_is_content) l_m_is_content c_m_is_content k_m_is_content
  have b_m_is_content := F_m_is_content.binds (ps := ["self", "value"]) fun _ _ _ _ _ _ us hl => match us, hl with | [_, _], _ => rfl
  have F_m_is_filling := fun_mk (st := s_m_is_filling) l_m_is_filling c_m_is_filling k_m_is_filling
  have b_m_is_filling := F_m_is_filling.binds (ps := ["self", "value"]) fun _ _ _ _ _ _ us hl => match us, hl with | [_, _], _ => rfl
  have F_m_steps_of := fun_mk (st := s_m_steps_of) l_m_steps_of c_m_steps_of k_m_steps_of
  have b_m_steps_of := F_m_steps_of.binds (ps := ["self", "content", "filling"]) fun _ _ _ _ _ _ us hl => match us, hl with | [_, _, _], _ => rfl
  have F_m_renamed := fun_mk (st := s_m_renamed) l_m_renamed c_m_renamed k_m_renamed
  have b_m_renamed := F_m_renamed.binds (ps := ["self", "names"]) fun _ _ _ _ _ _ us hl => match us, hl with | [_, _], _ => rfl
  have F_m_without := fun_mk (st := s_m_without) l_m_without c_m_without k_m_without
  have b_m_without := F_m_without.binds (ps := ["self", "name"]) fun _ _ _ _ _ _ us hl => match us, hl with | [_, _], _ => rfl
  have F_m_add := fun_mk (st := s_m_add) l_m_add c_m_add k_m_add
  have b_m_add := F_m_add.binds (ps := ["self", "other"]) fun _ _ _ _ _ _ us hl => match us, hl with | [_, _], _ => rfl
  have F_m_contains := fun_mk (st := s_m_contains) l_m_contains c_m_contains k_m_contains
  have b_m_contains := F_m_contains.binds (ps := ["self", "value"]) fun _ _ _ _ _ _ us hl => match us, hl with | [_, _], _ => rfl
  have F_m_len := fun_mk (st := s_m_len) l_m_len c_m_len k_m_len
  have b_m_len := F_m_len.binds (ps := ["self"]) fun _ _ _ _ _ _ us hl => match us, hl with | [_], _ => rfl
  have F_m_eq := fun_mk (st := s_m_eq) l_m_eq c_m_eq k_m_eq
  have b_m_eq := F_m_eq.binds (ps := ["self", "other"]) fun _ _ _ _ _ _ us hl => match us, hl with | [_, _], _ => rfl
  have F_m_str := fun_mk (st := s_m_str) l_m_str c_m_str k_m_str
  have b_m_str := F_m_str.binds (ps := ["self"]) fun _ _ _ _ _ _ us hl => match us, hl with | [_], _ => rfl
  have D_p_word : DfD K mg "is_word_of" s_p_word ["signs", "value", "most"] := dfd_mk (PySem.W.mg_of X G a_p_word) l_p_word lT_p_word c_p_word k_p_word (fun _ _ _ _ _ _ _ us its h1 h2 => match us, its, h1, h2 with | [_, _, _], [_], _, _ => ⟨_, rfl, rfl⟩) (fun _ _ _ _ _ _ _ us its h1 h2 => match us, its, h1, h2 with | [_, _], [_], _, _ => ⟨_, rfl, rfl⟩)
  have D_p_words : DfD K mg "are_words_of" s_p_words ["parts", "value", "most"] := dfd_mk (PySem.W.mg_of X G a_p_words) l_p_words lT_p_words c_p_words k_p_words (fun _ _ _ _ _ _ _ us its h1 h2 => match us, its, h1, h2 with | [_, _, _], [_], _, _ => ⟨_, rfl, rfl⟩) (fun _ _ _ _ _ _ _ us its h1 h2 => match us, its, h1, h2 with | [_, _], [_], _, _ => ⟨_, rfl, rfl⟩)
  have Z : Sx K mg C SO := { gC := PySem.W.mg_of X G nC, gO := PySem.W.mg_of X G nO, kO := kO, xO := xO, bO := bO, tO := tO, teO := exm_self bO iO tO sO, sc := ⟨pg, ic, po, sa⟩, si := ⟨si1, si2, si3, si4⟩, t0 := ⟨p0, w0, w0g, w0k, w0t, w0i, by decide⟩, t1 := ⟨p1, w1, w1g, w1k, w1t, w1i, by decide⟩, t2 := ⟨p2, w2, w2g, w2k, w2t, w2i, by decide⟩, t3 := ⟨p3, w3, w3g, w3k, w3t, w3i, by decide⟩, sf := sf, kk := kit_self, kl := kit_list ic tC sL, nf := nf, nl := nl }
  have M : L2.Mk K C f_init := ⟨mk, a_init, i_init, kC⟩
  have NE : NeF K C := ⟨nmC, qC, NC, bsC, hdC, snC, subC, abC, colC, ddC, k0C, k1C, k2C, k3C, k5C, newC, f_m_eq, l_C, nsC, nsEq, nsNe, fn_cls i_m_eq, a_m_eq⟩
  refine ⟨PySem.W.fnOf "law" "law" (defArgs s_law) (defBody s_law) (defScope s_law) .none kv_law dc_law pm_law an_law cd_law ct_law, fun s v => .of_eq rfl, fun base _ _ => ?_⟩
  have C_dip := cal_dip (P := l.prog) (w := w) (base := base) T D_dip
  have C_choose := cal_choose T D_choose C_dip
  have C_shuffled := cal_shuffled T D_shuffled C_dip
  have C_name := cal_name T D_name C_dip C_choose
  have C_free := cal_free (P := l.prog) (w := w) (base := base) D_free
  have C_names := cal_names T D_names C_name C_free
  have C_signs := cal_signs T D_signs C_dip C_choose C_shuffled
  have C_parts := cal_parts T D_parts C_dip C_names C_signs
  have C_filled := cal_filled (P := l.prog) (w := w) (base := base) T D_filled
  have C_p_name := cal_p_name (P := l.prog) (w := w) (base := base) T GG D_p_name
  have C_p_signs := cal_p_signs (P := l.prog) (w := w) (base := base) T GG D_p_signs
  have C_p_part := cal_p_part T D_p_part C_p_name C_p_signs
  have C_p_parts := cal_p_parts T GG D_p_parts C_p_part
  have C_p_streams := cal_p_streams T D_p_streams C_p_parts
  have C_init := fn_init T Z F_init C_p_streams
  have G_contains := fn_contains (P := l.prog) (w := w) (base := base) T Z F_m_contains
  have M_contains : Mth l.prog w K mg base CX0 C "__contains__" 1 (spCont C) := ⟨⟨f_m_contains, _, _, a_m_contains, i_m_contains, k_m_contains, b_m_contains, G_contains⟩⟩
  have G_len := fn_len (P := l.prog) (w := w) (base := base) T Z F_m_len
  have M_len : Mth l.prog w K mg base CX0 C "__len__" 1 (spLen C) := ⟨⟨f_m_len, _, _, a_m_len, i_m_len, k_m_len, b_m_len, G_len⟩⟩
  have C_p_known := cal_p_known D_p_known M_contains
  have G_signs_of := fn_signs_of Z F_m_signs_of C_p_known
  have M_signs_of : Mth l.prog w K mg base CX0 C "signs_of" 3 (spSignsOf C) := ⟨⟨f_m_signs_of, _, _, a_m_signs_of, i_m_signs_of, k_m_signs_of, b_m_signs_of, G_signs_of⟩⟩
  have G_is_source := fn_is_source T Z F_m_is_source C_p_known
  have M_is_source : Mth l.prog w K mg base CX0 C "is_source" 3 (spPlace C fun j m => .bl (decide (j < m))) := ⟨⟨f_m_is_source, _, _, a_m_is_source, i_m_is_source, k_m_is_source, b_m_is_source, G_is_source⟩⟩
  have G_index_of := fn_index_of T Z F_m_index_of C_p_known
  have M_index_of : Mth l.prog w K mg base CX0 C "index_of" 3 (spPlace C fun j m => .int ((if j < m then j else j - m : Nat) : Int)) := ⟨⟨f_m_index_of, _, _, a_m_index_of, i_m_index_of, k_m_index_of, b_m_index_of, G_index_of⟩⟩
  have C_p_word := cal_p_word (P := l.prog) (w := w) (base := base) T D_p_word
  have C_p_words := cal_p_words T D_p_words C_p_word
  have G_is_content := fn_is_content Z F_m_is_content C_p_words
  have M_is_content : Mth l.prog w K mg base CX0 C "is_content" 3 (spTold C fun ps _ => ps) := ⟨⟨f_m_is_content, _, _, a_m_is_content, i_m_is_content, k_m_is_content, b_m_is_content, G_is_content⟩⟩
  have G_is_filling := fn_is_filling Z F_m_is_filling C_p_words
  have M_is_filling : Mth l.prog w K mg base CX0 C "is_filling" 3 (spTold C fun _ qs => qs) := ⟨⟨f_m_is_filling, _, _, a_m_is_filling, i_m_is_filling, k_m_is_filling, b_m_is_filling, G_is_filling⟩⟩
  have G_steps_of := fn_steps_of T Z F_m_steps_of M_is_content M_is_filling T_sum
  have M_steps_of : Mth l.prog w K mg base CX0 C "steps_of" 4 (spSteps C) := ⟨⟨f_m_steps_of, _, _, a_m_steps_of, i_m_steps_of, k_m_steps_of, b_m_steps_of, G_steps_of⟩⟩
  have C_p_ren := cal_p_ren T D_p_ren C_p_name
  have G_renamed := fn_renamed T Z F_m_renamed C_p_ren M C_init b_init
  have M_renamed : Mth l.prog w K mg base CX0 C "renamed" 7 (spRnd C) := ⟨⟨f_m_renamed, _, _, a_m_renamed, i_m_renamed, k_m_renamed, b_m_renamed, G_renamed⟩⟩
  have G_without := fn_without T Z F_m_without C_p_known M C_init b_init
  have M_without : Mth l.prog w K mg base (L2.CX l.prog w) C "without" 7 (spLess C SO) := ⟨⟨f_m_without, _, _, a_m_without, i_m_without, k_m_without, b_m_without, G_without⟩⟩
  have G_add := fn_add T Z F_m_add C_p_streams M C_init b_init
  have M_add : Mth l.prog w K mg base (L2.CX l.prog w) C "__add__" 7 (spAdd C SO) := ⟨⟨f_m_add, _, _, a_m_add, i_m_add, k_m_add, b_m_add, G_add⟩⟩
  have G_eq := fn_eq (P := l.prog) (w := w) (base := base) T Z F_m_eq
  have M_eq : Mth l.prog w K mg base CX0 C "__eq__" 1 (spEq K C) := ⟨⟨f_m_eq, _, _, a_m_eq, i_m_eq, k_m_eq, b_m_eq, G_eq⟩⟩
  have G_str := fn_str (P := l.prog) (w := w) (base := base) T Z F_m_str
  have M_str : Mth l.prog w K mg base CX0 C "__str__" 1 (spStr' C) := ⟨⟨f_m_str, _, _, a_m_str, i_m_str, k_m_str, b_m_str, G_str⟩⟩
  have PS : PrX l.prog w K mg base C "sources" 3 := ⟨q0, f_pr_sources, u0, u0g, u0k, ⟨_, a_pr_sources⟩, fnR_of (fn_sources Z F_pr_sources) b_pr_sources⟩
  have PK : PrX l.prog w K mg base C "sinks" 2 := ⟨q1, f_pr_sinks, u1, u1g, u1k, ⟨_, a_pr_sinks⟩, fnR_of (fn_sinks Z F_pr_sinks) b_pr_sinks⟩
  have PN : PrX l.prog w K mg base C "names" 0 := ⟨q2, f_pr_names, u2, u2g, u2k, ⟨_, a_pr_names⟩, fnR_of (fn_names_of Z F_pr_names) b_pr_names⟩
  have C_word := cal_word T D_word C_dip C_choose
  have C_text := cal_text (P := l.prog) (w := w) (base := base) D_text
  have C_is_told := cal_told T Z D_is_told PS PK PN M_len M_str C_text M_signs_of M_is_source M_index_of M_contains M_eq NE M C_init b_init
  have C_words_right := cal_words_right T T_sum Z D_words_right C_choose C_word M_steps_of M_is_content M_is_filling
  have C_renamed := cal_renamed T Z D_renamed C_choose C_shuffled C_names M_renamed
  have C_less := cal_less T Z D_less C_dip C_choose M_without
  have C_more := cal_more T Z D_more C_dip C_parts M_add M C_init b_init
  have C_deed := cal_deed D_deed C_dip C_renamed C_less C_more
  have C_right := cal_right T Z D_right C_dip C_parts C_deed C_is_told C_words_right M_eq M C_init b_init
  exact fng_law T Z F_law C_filled C_right M C_init b_init M_renamed M_without M_index_of M_str M_eq
theorem walk_law {l : PySem.W.OpenLaw} {q : Program} {loose : List Str} {XP : (Str → Option Value) → Heap → Prop} {YP : World → Heap → Prop} {d : DefRec} {K : Params → PySem.W.Frag} (hn : l.most = some 63) (hdf : d.params.defaults = []) (hY : ∀ (w : World) (h : Heap), YP w h → (K w.params).In h)
    (F : ∀ (w : World) (mg : Str → Option Value) (fa : Addr) (h : Heap), (K w.params).In h → h.Ns mainGlobals mg → mg d.name = some (.ref fa) → ∃ fd : FuncData, (∀ (s : Shared) (u : Value), BindsTo s fd ⟨[u], []⟩ [("script", u)]) ∧
      ∀ base : Heap, (K w.params).In base → base.Ns mainGlobals mg → FnG l.prog w (K w.params) mg base CX0 11 fa fd ["script"] (spLaw (K w.params))) : PySem.W.WalkO q loose XP YP l.row.toRowW d [] (fun f vs => PySem.call f vs) :=
  walk_g (n := 63) (k := 11) (x := "script") (CX := fun _ => CX0) (sp := fun w => (spLaw (K w.params))) hn (by decide) hdf ⟨rfl, by decide, by decide⟩ hY F (fun w H a ns hl _ hs => ⟨a, ns, rfl, hs, hl, fun _ => rfl⟩) fun _ _ _ _ _ z => z
end Fs
open PySem PySem.W PyProof.Rows in
set_option maxRecDepth 100000 in
set_option maxHeartbeats 0 in
theorem PySem.Challenge.cw_fewersteps_k02_whole_histories_of_stream_holds : PySem.Challenge.rw_fewersteps_k02_whole_histories_of_stream.Holds := by
  w_on; o_law; k_head; (case hw => w_witness2)
  k_fill
  refine Fs.walk_law (l := PySem.Challenge.rw_fewersteps_k02_whole_histories_of_stream) rfl rfl (fun w h Y => PySem.W.kIn_of Y) ?F
  case F =>
    intro w mg fa h KX G hmg
    refine' Fs.all_mk KX G hmg ?a_dip ?l_dip ?c_dip ?k_dip ?a_choose ?l_choose ?c_choose ?k_choose ?a_shuffled ?l_shuffled ?c_shuffled ?k_shuffled ?a_name ?l_name ?c_name ?k_name ?a_free ?l_free ?c_free ?k_free ?a_names ?l_names ?c_names ?k_names ?a_signs ?l_signs ?c_signs ?k_signs ?a_parts ?l_parts ?c_parts ?k_parts ?a_filled ?l_filled ?c_filled ?k_filled ?a_p_name ?l_p_name ?c_p_name ?k_p_name ?a_p_signs ?l_p_signs ?c_p_signs ?k_p_signs ?a_p_part ?l_p_part ?c_p_part ?k_p_part ?a_p_parts ?l_p_parts ?c_p_parts ?k_p_parts ?a_p_streams ?l_p_streams ?c_p_streams ?k_p_streams ?a_p_ren ?l_p_ren ?c_p_ren ?k_p_ren ?a_p_known ?l_p_known ?c_p_known ?k_p_known ?a_word ?l_word ?c_word ?k_word ?a_text ?l_text ?c_text ?k_text ?a_is_told ?l_is_told ?c_is_told ?k_is_told ?a_words_right ?l_words_right ?c_words_right ?k_words_right ?a_renamed ?l_renamed ?c_renamed ?k_renamed ?a_less ?l_less ?c_less ?k_less ?a_more ?l_more ?c_more ?k_more ?a_deed ?l_deed ?c_deed ?k_deed ?a_right ?l_right ?c_right ?k_right ?a_law ?l_law ?c_law ?k_law ?z_len ?z_int ?z_abs ?z_max ?z_min ?z_list ?z_tuple ?z_range ?z_sorted ?z_isinstance ?z_str ?z_all ?z_zip ?z_set ?z_repr ?z_dict ?g_LETTERS ?g_END ?g_MAX_NAME ?g_MAX_SIGNS ?g_MAX_STREAMS ?z_sum ?nC ?nO ?kO ?xO ?bO ?tO ?iO ?sO ?pg ?ic ?po ?sa ?mk ?kC ?tC ?sL ?si1 ?si2 ?si3 ?si4 ?sf ?nf ?nl ?l_C ?nsC ?nsNe ?w0 ?w0g ?w0k ?w0t ?w0i ?w1 ?w1g ?w1k ?w1t ?w1i ?w2 ?w2g ?w2k ?w2t ?w2i ?w3 ?w3g ?w3k ?w3t ?w3i ?u0 ?u0g ?u0k ?a_pr_sources ?l_pr_sources ?c_pr_sources ?k_pr_sources ?u1 ?u1g ?u1k ?a_pr_sinks ?l_pr_sinks ?c_pr_sinks ?k_pr_sinks ?u2 ?u2g ?u2k ?a_pr_names ?l_pr_names ?c_pr_names ?k_pr_names ?a_init ?l_init ?c_init ?k_init ?i_init ?a_m_signs_of ?l_m_signs_of ?c_m_signs_of ?k_m_signs_of ?i_m_signs_of ?a_m_is_source ?l_m_is_source ?c_m_is_source ?k_m_is_source ?i_m_is_source ?a_m_index_of ?l_m_index_of ?c_m_index_of ?k_m_index_of ?i_m_index_of ?a_m_is_content ?l_m_is_content ?c_m_is_content ?k_m_is_content ?i_m_is_content ?a_m_is_filling ?l_m_is_filling ?c_m_is_filling ?k_m_is_filling ?i_m_is_filling ?a_m_steps_of ?l_m_steps_of ?c_m_steps_of ?k_m_steps_of ?i_m_steps_of ?a_m_renamed ?l_m_renamed ?c_m_renamed ?k_m_renamed ?i_m_renamed ?a_m_without ?l_m_without ?c_m_without ?k_m_without ?i_m_without ?a_m_add ?l_m_add ?c_m_add ?k_m_add ?i_m_add ?a_m_contains ?l_m_contains ?c_m_contains ?k_m_contains ?i_m_contains ?a_m_len ?l_m_len ?c_m_len ?k_m_len ?i_m_len ?a_m_eq ?l_m_eq ?c_m_eq ?k_m_eq ?i_m_eq ?a_m_str ?l_m_str ?c_m_str ?k_m_str ?i_m_str ?nsEq ?a_p_word ?l_p_word ?lT_p_word ?c_p_word ?k_p_word ?a_p_words ?l_p_words ?lT_p_words ?c_p_words ?k_p_words
    (case a_dip => k_is); (case l_dip => k_is); (case c_dip => k_is); (case k_dip => k_is)
    (case a_choose => k_is); (case l_choose => k_is); (case c_choose => k_is); (case k_choose => k_is)
    (case a_shuffled => k_is); (case l_shuffled => k_is); (case c_shuffled => k_is); (case k_shuffled => k_is)
    (case a_name => k_is); (case l_name => k_is); (case c_name => k_is); (case k_name => k_is)
    (case a_free => k_is); (case l_free => k_is); (case c_free => k_is); (case k_free => k_is)
    (case a_names => k_is); (case l_names => k_is); (case c_names => k_is); (case k_names => k_is)
    (case a_signs => k_is); (case l_signs => k_is); (case c_signs => k_is); (case k_signs => k_is)
    (case a_parts => k_is); (case l_parts => k_is); (case c_parts => k_is); (case k_parts => k_is)
    (case a_filled => k_is); (case l_filled => k_is); (case c_filled => k_is); (case k_filled => k_is)
    (case a_p_name => k_is); (case l_p_name => k_is); (case c_p_name => k_is); (case k_p_name => k_is)
    (case a_p_signs => k_is); (case l_p_signs => k_is); (case c_p_signs => k_is); (case k_p_signs => k_is)
    (case a_p_part => k_is); (case l_p_part => k_is); (case c_p_part => k_is); (case k_p_part => k_is)
    (case a_p_parts => k_is); (case l_p_parts => k_is); (case c_p_parts => k_is); (case k_p_parts => k_is)
    (case a_p_streams => k_is); (case l_p_streams => k_is); (case c_p_streams => k_is); (case k_p_streams => k_is)
    (case a_p_ren => k_is); (case l_p_ren => k_is); (case c_p_ren => k_is); (case k_p_ren => k_is)
    (case a_p_known => k_is); (case l_p_known => k_is); (case c_p_known => k_is); (case k_p_known => k_is)
    (case a_word => k_is); (case l_word => k_is); (case c_word => k_is); (case k_word => k_is)
    (case a_text => k_is); (case l_text => k_is); (case c_text => k_is); (case k_text => k_is)
    (case a_is_told => k_is); (case l_is_told => k_is); (case c_is_told => k_is); (case k_is_told => k_is)
    (case a_words_right => k_is); (case l_words_right => k_is); (case c_words_right => k_is); (case k_words_right => k_is)
    (case a_renamed => k_is); (case l_renamed => k_is); (case c_renamed => k_is); (case k_renamed => k_is)
    (case a_less => k_is); (case l_less => k_is); (case c_less => k_is); (case k_less => k_is)
    (case a_more => k_is); (case l_more => k_is); (case c_more => k_is); (case k_more => k_is)
    (case a_deed => k_is); (case l_deed => k_is); (case c_deed => k_is); (case k_deed => k_is)
    (case a_right => k_is); (case l_right => k_is); (case c_right => k_is); (case k_right => k_is)
    (case a_law => k_is); (case l_law => k_is); (case c_law => k_is); (case k_law => k_is)
    (case z_len => k_is); (case z_int => k_is); (case z_abs => k_is); (case z_max => k_is)
    (case z_min => k_is); (case z_list => k_is); (case z_tuple => k_is); (case z_range => k_is)
    (case z_sorted => k_is); (case z_isinstance => k_is); (case z_str => k_is); (case z_all => k_is)
    (case z_zip => k_is); (case z_set => k_is); (case z_repr => k_is); (case z_dict => k_is)
    (case g_LETTERS => k_is); (case g_END => k_is); (case g_MAX_NAME => k_is); (case g_MAX_SIGNS => k_is)
    (case g_MAX_STREAMS => k_is); (case z_sum => k_is); (case nC => k_is); (case nO => k_is)
    (case kO => k_is); (case xO => k_exc); (case bO => k_is); (case tO => k_is)
    (case iO => k_is); (case sO => first | rfl | k_is); (case pg => k_is); (case ic => k_is)
    (case po => k_is); (case sa => k_is); (case mk => k_is); (case kC => k_is)
    (case tC => k_is); (case sL => k_is); (case si1 => k_is); (case si2 => k_is)
    (case si3 => k_is); (case si4 => k_is); (case sf => k_is); (case nf => k_is)
    (case nl => k_is); (case l_C => k_is); (case nsC => first | kernel_rfl | rfl); (case nsNe => k_is)
    (case w0 => k_is); (case w0g => k_is); (case w0k => k_is); (case w0t => k_is)
    (case w0i => k_is); (case w1 => k_is); (case w1g => k_is); (case w1k => k_is)
    (case w1t => k_is); (case w1i => k_is); (case w2 => k_is); (case w2g => k_is)
    (case w2k => k_is); (case w2t => k_is); (case w2i => k_is); (case w3 => k_is)
    (case w3g => k_is); (case w3k => k_is); (case w3t => k_is); (case w3i => k_is)
    (case u0 => k_is); (case u0g => k_is); (case u0k => k_is); (case a_pr_sources => k_is)
    (case l_pr_sources => k_is); (case c_pr_sources => k_is); (case k_pr_sources => k_is); (case u1 => k_is)
    (case u1g => k_is); (case u1k => k_is); (case a_pr_sinks => k_is); (case l_pr_sinks => k_is)
    (case c_pr_sinks => k_is); (case k_pr_sinks => k_is); (case u2 => k_is); (case u2g => k_is)
    (case u2k => k_is); (case a_pr_names => k_is); (case l_pr_names => k_is); (case c_pr_names => k_is)
    (case k_pr_names => k_is); (case a_init => k_is); (case l_init => k_is); (case c_init => k_is)
    (case k_init => k_is); (case i_init => k_is); (case a_m_signs_of => k_is); (case l_m_signs_of => k_is)
    (case c_m_signs_of => k_is); (case k_m_signs_of => k_is); (case i_m_signs_of => k_is); (case a_m_is_source => k_is)
    (case l_m_is_source => k_is); (case c_m_is_source => k_is); (case k_m_is_source => k_is); (case i_m_is_source => k_is)
    (case a_m_index_of => k_is); (case l_m_index_of => k_is); (case c_m_index_of => k_is); (case k_m_index_of => k_is)
    (case i_m_index_of => k_is); (case a_m_is_content => k_is); (case l_m_is_content => k_is); (case c_m_is_content => k_is)
    (case k_m_is_content => k_is); (case i_m_is_content => k_is); (case a_m_is_filling => k_is); (case l_m_is_filling => k_is)
    (case c_m_is_filling => k_is); (case k_m_is_filling => k_is); (case i_m_is_filling => k_is); (case a_m_steps_of => k_is)
    (case l_m_steps_of => k_is); (case c_m_steps_of => k_is); (case k_m_steps_of => k_is); (case i_m_steps_of => k_is)
    (case a_m_renamed => k_is); (case l_m_renamed => k_is); (case c_m_renamed => k_is); (case k_m_renamed => k_is)
    (case i_m_renamed => k_is); (case a_m_without => k_is); (case l_m_without => k_is); (case c_m_without => k_is)
    (case k_m_without => k_is); (case i_m_without => k_is); (case a_m_add => k_is); (case l_m_add => k_is)
    (case c_m_add => k_is); (case k_m_add => k_is); (case i_m_add => k_is); (case a_m_contains => k_is)
    (case l_m_contains => k_is); (case c_m_contains => k_is); (case k_m_contains => k_is); (case i_m_contains => k_is)
    (case a_m_len => k_is); (case l_m_len => k_is); (case c_m_len => k_is); (case k_m_len => k_is)
    (case i_m_len => k_is); (case a_m_eq => k_is); (case l_m_eq => k_is); (case c_m_eq => k_is)
    (case k_m_eq => k_is); (case i_m_eq => k_is); (case a_m_str => k_is); (case l_m_str => k_is)
    (case c_m_str => k_is); (case k_m_str => k_is); (case i_m_str => k_is); (case nsEq => k_is)
    (case a_p_word => k_is); (case l_p_word => k_is); (case lT_p_word => k_is); (case c_p_word => k_is)
    (case k_p_word => k_is); (case a_p_words => k_is); (case l_p_words => k_is); (case lT_p_words => k_is)
    (case c_p_words => k_is); (case k_p_words => k_is)
