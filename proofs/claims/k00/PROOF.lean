import PyProof.Rows.All
import Wide.All
import OpenK.AllK
import Wide.FinOn
import HandS.ForMost
import HandS.Conv
import HandS.IsInst
import HandS.Slots
import HandS.SlotsOwn
import HandS.DictComp
import HandS.TupAny
import HandS.Exc
import HandS.TryOnly
import HandS.ExcOwn
import HandS.WordsExc
import HandS.Wide
import PySem.Challenge.RW_fewersteps_k00_names_signs_and_streams_j
import HandS.Codes
import HandS.Walk
import KE.GoesMore
import KE.GoesEnum
import HandS.Strs
set_option Elab.async false
set_option maxRecDepth 100000
set_option maxHeartbeats 4000000
set_option linter.all false
namespace Fs
open PySem PySem.Spec PyProof.Rows L2

/-! ### the text by places -/
def top (i : Nat) : Stmt := PySem.Challenge.pw_fewersteps_k00_names_signs_and_streams_j.main.body.getD i (.Pass ⟨0, 0, 0, 0⟩)

/-! ### promises of defs that run where no repr is on its way: the promise of L2 with what is known of the guards -/
structure FnG (P : Program) (w : World) (K : PySem.W.Frag) (mg : Str → Option Value) (base : Heap) (CX : CXT) (k : Nat) (f : Addr) (fd : FuncData) (ps : List Str) (sp : Sp) : Prop where
  lens : ∀ vs H Q E, sp vs H Q E → vs.length = ps.length
  goes : ∀ (A : Around) (outer : List Env) (s : Shared) (H : Hp) (args : Args) (us : List Value) (vs : List V) (Q : VK) (E : XK), Room k A → A.guards = some [] → Env0 P w K mg base A outer s H →
    BindsTo s fd args (ps.zip us) → Vals vs us → sp vs H Q E → codeAny (model P w) A (.call (.ref f) args) (CR CX outer P w H s Q E) s
section
variable {P : Program} {w : World} {K : PySem.W.Frag} {mg : Str → Option Value} {base : Heap} {CX : CXT} {k j : Nat} {f : Addr} {fd : FuncData} {ps : List Str} {sp : Sp}
theorem FnG.of (F : FnOk P w K mg base CX k f fd ps sp) : FnG P w K mg base CX k f fd ps sp := ⟨F.len, fun A outer s H args us vs Q E hr _ => F.run A outer s H args us vs Q E hr⟩
theorem FnG.more (F : FnG P w K mg base CX j f fd ps sp) (h : j ≤ k) : FnG P w K mg base CX k f fd ps sp :=
  ⟨F.lens, fun A outer s H args us vs Q E hr => F.goes A outer s H args us vs Q E (hr.mono h)⟩
/-- a promise by its body -/
theorem FnG.by {x qual : Str} {st : Stmt} {N : List Str} (F : L2.Fun K x qual st f fd) (S : FnScope N ps (defScope st)) (lens : ∀ vs H Q E, sp vs H Q E → vs.length = ps.length)
    (body : ∀ (cdv : Value) (A : Around) (outer : List Env) (s : Shared) (H : Hp) (vs : List V) (Q : VK) (E : XK), Room k (A.deeper (envOfC qual (defScope st) s.heap.objs.size f cdv)) → A.guards = some [] → sp vs H Q E →
      ∃ t, PSs (cxOf CX P w K mg base N qual (defScope st) f cdv A outer s H E) (defBody st) t ∧ t { nx := fun _ H' => Q .non H', rt := Q } (start N vs) H) : FnG P w K mg base CX (k + 1) f fd ps sp := by
  obtain ⟨c1, d1, v1, v2, v3, n1, cdv, v4, sl, efd, look, code⟩ := F.ex
  subst efd
  constructor
  · exact lens
  intro A outer s H args us vs Q E room guards env bind rel want
  have inK : K.In s.heap := env.mod.kin.keeps fun b o e => And.left (env.bs b o e)
  have noLim : s.heap.NoLimit := env.mod.nolimit.keeps fun b o e => And.left (env.bs b o e)
  have kinds : ∀ z ∈ ps.zip us, (defScope st).names.lookup z.1 = some .local ∨ ((defScope st).names.lookup z.1 = some .cell ∧ ((cellsFrom (s.heap.objs.size + 1) (defScope st).names []).lookup z.1).isSome = true) := by
    rintro ⟨nm, val⟩ hz
    cases S.par nm (List.of_mem_zip hz).1 with
    | inl c => exact Or.inl c
    | inr c => exact Or.inr ⟨c, PySem.W.cellsFrom_some _ _ _ (Or.inl c)⟩
  refine codeAny_call_function room.depth (inK _ _ look) rfl S.co S.gen rfl (PySem.W.codeRec_of inK code) (bind _ _ _ _ (wpAny_newFunctionEnv_cells S.kind kinds ?_))
  intro env' eEnv s' made
  subst eEnv
  refine And.intro (noLim.keeps made.toInCall.keep) (codeAny_func ?_)
  rcases body cdv A outer s H vs Q E (room.deeper _) guards want with ⟨t, der, rd⟩
  have J := inv_start (CX := CX) (E := E) S room.hd env (lens _ _ _ _ want) rel made
  have done : ∀ {σ2 : L2.St} {H2 : Hp} {s2 : Shared} {v : V} {u : Value}, Inv (cxOf CX P w K mg base N qual (defScope st) f cdv A outer s H E) [] σ2 H2 s2 → RelV v u → Q v H2 → CE outer P w H s Q u s2 := by
    intro σ2 H2 s2 v u J2 r2 q2
    exact ⟨v, H2, J2.os, J2.bare, J2.base, J2.hok, r2, q2⟩
  refine wpAny_mono (der.run [] s' _ H _ J rd) ?_ (fun _ _ he => he)
  intro fl s2 h2
  cases fl
  case ret u => rcases h2 with ⟨v, σ2, H2, J2, r2, q2⟩; exact done J2 r2 q2
  case next => rcases h2 with ⟨σ2, H2, J2, q2⟩; exact done (v := .non) (u := .none) J2 rfl q2
  case brk => rcases h2 with ⟨_, _, _, q2⟩; cases q2
  case cont => rcases h2 with ⟨_, _, _, q2⟩; cases q2
end
section
variable {X : Cx} {CX : CXT} {k : Nat} {f : Addr} {fd : FuncData} {ps : List Str} {sp : Sp} {E : XK} {x : Str} {p pos : Pos} {e : Expr} {es : List Expr} {t : TA}
/-- such a def is called with values -/
theorem call_g {pins : List (Addr × Obj)} {σ : L2.St} {H : Hp} {s : Shared} {Q : VK} {us : List Value} {vs : List V} (F : FnG X.prog X.w X.K X.mg X.base CX k f fd ps sp) (room : Room k X.A) (guards : X.A.guards = some []) (bind : Binds X.K fd ps [])
    (pass : Passes CX X E) (I : Inv X pins σ H s) (rel : Vals vs us) (want : sp vs H Q E) : wpAny (model X.prog X.w) X.A (call (.ref f) us) (EP X pins σ Q) X.xe s := by
  have e1 : (us ++ ([] : List Value)).length = ps.length := by rw [List.append_nil, ← rel.length]; exact F.lens _ _ _ _ want
  have b1 := bind s us I.kIn e1
  rw [List.append_nil] at b1
  apply wpAny_call
  refine codeAny_mono (F.goes X.A X.stack s H ⟨us, []⟩ us vs Q E room guards I.env0 b1 rel want) ?_
  intro r s' h
  match r, h with
  | .error err, h => exact pass pins σ H s err s' I h
  | .ok (.ret u), h => exact I.after h
  | .ok .next, h => exact h.elim
  | .ok .brk, h => exact h.elim
  | .ok .cont, h => exact h.elim
/-- f(e, ..) -/
theorem pe_callG (F : FnG X.prog X.w X.K X.mg X.base CX k f fd ps sp) (room : Room k X.A) (guards : X.A.guards = some []) (hg : Gl X x) (hm : X.mg x = some (.ref f)) (hk : PySem.W.keepIn X.K (.ref f) = true) (bind : Binds X.K fd ps [])
    (pass : Passes CX X E) (ha : PA X (e :: es) t) (hdb : (x == ("__debug__" : Str)) = false := by decide)
    (he : starEach (e :: es) X.env = (false, eval e X.env) :: starEach es X.env := by rfl) (hpl : (backTo pos (starEach es X.env)).any (·.1) = false := by rfl) : PE X (.Call (.Name x p) (e :: es) [] pos) (tCallS sp (fun _ => E) t) := by
  constructor
  intro pins s σ H Q I want
  apply wpAny_Call_Name_kw
  refine ld_glob I hg hm ?_ hdb
  refine PySem.W.callWith_K (h₀ := X.base) I.ok.mod.kin hk ?_ he hpl
  refine thn (ha.run pos pins s σ H _ I want) ?_
  rintro us s2 ⟨vs, H2, I2, rel, q⟩
  exact ⟨I2.kIn, call_g F room guards bind pass I2 rel q⟩
end

/-! ### a def that may be called by its name -/
structure Df (K : PySem.W.Frag) (mg : Str → Option Value) (x : Str) (st : Stmt) (ps : List Str) : Prop where
  ex : ∃ (f : Addr) (fd : FuncData), L2.Fun K x x st f fd ∧ mg x = some (.ref f) ∧ Binds K fd ps []
structure Cal (P : Program) (w : World) (K : PySem.W.Frag) (mg : Str → Option Value) (base : Heap) (k : Nat) (x : Str) (sp : Sp) : Prop where
  ex : ∃ (f : Addr) (fd : FuncData) (ps : List Str), FnG P w K mg base CX0 k f fd ps sp ∧ mg x = some (.ref f) ∧ PySem.W.keepIn K (.ref f) = true ∧ Binds K fd ps []
/-- the room and the guards of a body -/
structure Rm (k : Nat) (A : Around) : Prop where
  rm : Room k A
  gd : A.guards = some []
section
variable {P : Program} {w : World} {K : PySem.W.Frag} {mg : Str → Option Value} {base : Heap}
theorem Df.cal {x : Str} {st : Stmt} {N ps : List Str} {k : Nat} {sp : Sp} (D : Df K mg x st ps) (S : FnScope N ps (defScope st)) (lens : ∀ vs H Q E, sp vs H Q E → vs.length = ps.length)
    (body : ∀ (f : Addr) (cdv : Value) (A : Around) (outer : List Env) (s : Shared) (H : Hp) (vs : List V) (Q : VK) (E : XK), Rm k (A.deeper (envOfC x (defScope st) s.heap.objs.size f cdv)) → sp vs H Q E →
      ∃ t, PSs (cxOf CX0 P w K mg base N x (defScope st) f cdv A outer s H E).nox (defBody st) t ∧ t { nx := fun _ H' => Q .non H', rt := Q } (start N vs) H) : Cal P w K mg base (k + 1) x sp := by
  obtain ⟨f, fd, F, m, b⟩ := D.ex
  refine ⟨f, fd, ps, FnG.by F S lens (fun cdv A outer s H vs Q E room guards want => ?_), m, F.kp, b⟩
  obtain ⟨t, d, r⟩ := body f cdv A outer s H vs Q E ⟨room, guards⟩ want
  exact ⟨t, d.nox, r⟩
end
section
variable {X : Cx} {k j : Nat} {x : Str} {sp : Sp} {p pos : Pos} {e : Expr} {es : List Expr} {t : TA}
/-- f(e, ..), f a def of the module -/
theorem pc (c : Cal X.prog X.w X.K X.mg X.base k x sp) (hr : Rm j X.A) (ha : PA X (e :: es) t) (hk : k ≤ j := by decide) (hg : Gl X x := by rfl)
    (hdb : (x == ("__debug__" : Str)) = false := by decide) (he : starEach (e :: es) X.env = (false, eval e X.env) :: starEach es X.env := by rfl) (hpl : (backTo pos (starEach es X.env)).any (·.1) = false := by rfl) :
    PE X (.Call (.Name x p) (e :: es) [] pos) (tCallS sp (fun _ => E0) t) := by
  obtain ⟨f, fd, ps, F, hm, kp, b⟩ := c.ex
  exact pe_callG F (hr.rm.mono hk) hr.gd hg hm kp b pass0 ha hdb he hpl
/-- a built-in function, a built-in class, called by name -/
theorem pb {id : String} {r : List V → Hp → VK → Prop} (hc : CallR X (.builtin id) r) (hm : X.mg x = none) (ha : PA X (e :: es) t) (hv : bootBuiltins x = some (.builtin id) := by decide +kernel) (hg : Gl X x := by rfl) (hn : x ≠ "__name__" := by decide) (hdb : (x == ("__debug__" : Str)) = false := by decide)
    (he : starEach (e :: es) X.env = (false, eval e X.env) :: starEach es X.env := by rfl) (hpl : (backTo pos (starEach es X.env)).any (·.1) = false := by rfl) : PE X (.Call (.Name x p) (e :: es) [] pos) (tCB r t) := pe_callB hc hg hm hv ha hn hdb he hpl
theorem pt {T : String} {r : List V → Hp → VK → Prop} (hc : CallR X (.type T) r) (hm : X.mg x = none) (ha : PA X (e :: es) t) (hv : bootBuiltins x = some (.type T) := by decide +kernel) (hg : Gl X x := by rfl) (hn : x ≠ "__name__" := by decide) (hdb : (x == ("__debug__" : Str)) = false := by decide)
    (he : starEach (e :: es) X.env = (false, eval e X.env) :: starEach es X.env := by rfl) (hpl : (backTo pos (starEach es X.env)).any (·.1) = false := by rfl) : PE X (.Call (.Name x p) (e :: es) [] pos) (tCB r t) := pe_callTy hc hg hm hv ha hn hdb he hpl
end

/-! ### rules that hand on a letter -/
theorem OpR.imp {X : Cx} {f : Value → Value → Sem Value} {r r' : R2} (h : OpR X f r) (hi : ∀ x y H Q, r' x y H Q → r x y H Q) : OpR X f r' :=
  fun pins s σ H x y v u Q I rx ry q => h pins s σ H x y v u Q I rx ry (hi x y H Q q)
theorem CallR.imp {X : Cx} {f : Value} {r r' : List V → Hp → VK → Prop} (h : CallR X f r) (hi : ∀ xs H Q, r' xs H Q → r xs H Q) : CallR X f r' :=
  fun pins s σ H xs us Q I rx q => h pins s σ H xs us Q I rx (hi xs H Q q)
theorem MtR.imp {X : Cx} {id : String} {r r' : V → List V → Hp → VK → Prop} (h : MtR X id r) (hi : ∀ x xs H Q, r' x xs H Q → r x xs H Q) : MtR X id r' :=
  fun pins s σ H x xs v us Q I rx rs q => h pins s σ H x xs v us Q I rx rs (hi x xs H Q q)
/-- a % b, b positive: any rest -/
def rModR : R2 := fun x y H Q => ∃ i j, x = .int i ∧ y = .int j ∧ 0 < j ∧ ∀ r, 0 ≤ r → r < j → Q (.int r) H
theorem op_modR {X : Cx} : OpR X (binaryOp .Mod) rModR := OpR.imp op_modN fun x y H Q ⟨i, j, e1, e2, hj, q⟩ => ⟨i, j, e1, e2, by omega, q _ (Int.fmod_nonneg_of_pos _ hj) (Int.fmod_lt_of_pos _ hj)⟩
/-- a // b, a not negative, b positive and small: any part -/
def rDivR : R2 := fun x y H Q => ∃ i j, x = .int i ∧ y = .int j ∧ 0 ≤ i ∧ 0 < j ∧ j < 1073741824 ∧ ∀ r, 0 ≤ r → r ≤ i → Q (.int r) H
theorem op_divR {X : Cx} : OpR X (binaryOp .FloorDiv) rDivR := OpR.imp op_fdivN fun x y H Q ⟨i, j, e1, e2, h0, hj, hj2, q⟩ => ⟨i, j, e1, e2, ⟨by omega, by omega⟩, q _ (Int.fdiv_nonneg h0 (by omega)) (by
  rw [Int.fdiv_eq_ediv_of_nonneg _ (by omega)]
  exact Int.ediv_le_self _ h0)⟩
/-- int of an int -/
def rIntI : List V → Hp → VK → Prop := fun xs H Q => ∃ i, xs = [.int i] ∧ Q (.int i) H
theorem call_intI {X : Cx} : CallR X (.type "int") rIntI := CallR.imp call_int1 fun xs H Q h => .inl h
/-- a * b of ints, one of them below 2 ^ 64: any int -/
def rMulR : R2 := fun x y H Q => ∃ i j, x = .int i ∧ y = .int j ∧ CMul i j ∧ ∀ r, r = i * j → Q (.int r) H
theorem op_mulR {X : Cx} : OpR X (binaryOp .Mult) rMulR := OpR.imp op_mul fun x y H Q ⟨i, j, e1, e2, c, q⟩ => ⟨i, j, e1, e2, c, q _ rfl⟩

/-! ### the built-in names that the text does not bind -/
structure Bs (mg : Str → Option Value) : Prop where
  z_len : mg "len" = none
  z_int : mg "int" = none
  z_abs : mg "abs" = none
  z_max : mg "max" = none
  z_min : mg "min" = none
  z_list : mg "list" = none
  z_tuple : mg "tuple" = none
  z_range : mg "range" = none
  z_sorted : mg "sorted" = none
  z_isinstance : mg "isinstance" = none
  z_str : mg "str" = none
  z_all : mg "all" = none
  z_zip : mg "zip" = none
  z_set : mg "set" = none
  z_repr : mg "repr" = none
  z_dict : mg "dict" = none

/-! ### the pot -/
/-- the pot at a: what is left of the digits, the seed, how often it was drawn -/
structure Pot (H : Hp) (a : Addr) : Prop where
  ex : ∃ p0 p1 p2 : Int, H a = some (.lst [.int p0, .int p1, .int p2]) ∧ 0 ≤ p0 ∧ 0 ≤ p1 ∧ p1 < 2305843009213693921 ∧ 0 ≤ p2
/-- the heap without what stands at a -/
def hid (a : Addr) (H : Hp) : Hp := fun b => if b = a then none else H b
theorem hid_ne {a b : Addr} {H : Hp} (h : b ≠ a) : hid a H b = H b := if_neg h
theorem hid_some {a b : Addr} {H : Hp} {o : HO} (h : hid a H b = some o) : b ≠ a ∧ H b = some o := by
  unfold hid at h
  by_cases e : b = a
  · rw [if_pos e] at h; cases h
  · rw [if_neg e] at h; exact ⟨e, h⟩
theorem hid_le (a : Addr) (H : Hp) : Same (hid a H) H := fun _ _ h => (hid_some h).2
theorem hid_upd_self {a : Addr} {H : Hp} {o : HO} : hid a (upd H a o) = hid a H := by
  funext b
  by_cases e : b = a
  · subst e; unfold hid; rw [if_pos rfl, if_pos rfl]
  · rw [hid_ne e, hid_ne e, upd_ne e]
/-- from H to H': the pot stays a pot, all else stays -/
structure Stp (a : Addr) (H H' : Hp) : Prop where
  pot : Pot H' a
  same : Same (hid a H) (hid a H')
theorem Stp.refl {a : Addr} {H : Hp} (h : Pot H a) : Stp a H H := ⟨h, Same.refl _⟩
theorem Stp.trans {a : Addr} {H H1 H2 : Hp} (x : Stp a H H1) (y : Stp a H1 H2) : Stp a H H2 := ⟨y.pot, x.same.trans y.same⟩
theorem Pot.ne {H : Hp} {a p : Addr} (h : Pot H a) (hp : H p = none) : p ≠ a := by
  obtain ⟨_, _, _, e, _⟩ := h.ex
  exact (ne_of_none e hp).symm
theorem Pot.upd {H : Hp} {a p : Addr} {o : HO} (h : Pot H a) (hp : p ≠ a) : Pot (upd H p o) a := by
  obtain ⟨p0, p1, p2, e, r⟩ := h.ex
  exact ⟨p0, p1, p2, by rw [upd_ne hp.symm]; exact e, r⟩
/-- a new object -/
theorem Stp.new {a p : Addr} {H H1 : Hp} {o : HO} (x : Stp a H H1) (hp : H1 p = none) : Stp a H (upd H1 p o) :=
  ⟨x.pot.upd (x.pot.ne hp), fun b u e => by
    obtain ⟨hb, e1⟩ := hid_some (x.same b u e)
    rw [hid_ne hb, upd_ne (ne_of_none e1 hp)]
    exact e1⟩
/-- an object that H does not know is changed -/
theorem Stp.mut {a p : Addr} {H H1 : Hp} {o : HO} (x : Stp a H H1) (hp : H p = none) (ne : p ≠ a) : Stp a H (upd H1 p o) :=
  ⟨x.pot.upd ne, fun b u e => by
    obtain ⟨hb, e1⟩ := hid_some (x.same b u e)
    obtain ⟨_, e0⟩ := hid_some e
    rw [hid_ne hb, upd_ne (ne_of_none e0 hp)]
    exact e1⟩
theorem Stp.get {a b : Addr} {H H1 : Hp} {o : HO} (x : Stp a H H1) (h : H b = some o) (ne : b ≠ a) : H1 b = some o :=
  (hid_some (x.same b o (by rw [hid_ne ne]; exact h))).2
theorem Stp.free {a p : Addr} {H H1 : Hp} (x : Stp a H H1) (h : H1 p = none) (ne : p ≠ a) : H p = none := by
  cases q : H p with
  | none => rfl
  | some o => rw [x.get q ne] at h; cases h

/-- any number below the total -/
def spDip : Sp := fun vs H Q _ => ∃ (a : Addr) (n : Int), vs = [.ref a, .int n] ∧ Pot H a ∧ 0 < n ∧ n < 1073741824 ∧ ∀ (r : Int) (H' : Hp), 0 ≤ r → r < n → Stp a H H' → Q (.int r) H'
abbrev s_dip : Stmt := top 20
section
variable {P : Program} {w : World} {K : PySem.W.Frag} {mg : Str → Option Value} {base : Heap}
theorem sc_dip : FnScope ["pot", "total", "found", "one", "two"] ["pot", "total"] (defScope s_dip) := ⟨rfl, rfl, rfl, by decide +kernel, rfl, by decide +kernel, by decide +kernel⟩
theorem cal_dip (T : Bs mg) (D : Df K mg "_law_dip" s_dip ["pot", "total"]) : Cal P w K mg base 1 "_law_dip" spDip := by
  refine D.cal sc_dip (fun vs H Q E h => ?_) (fun f cdv A outer s H vs Q E hr h => ?_)
  · obtain ⟨a, n, rfl, _⟩ := h
    rfl
  · obtain ⟨a, n, rfl, hp, h0, hn, k⟩ := h
    refine ⟨_, pss_cons (ps_if (pt_cmpR op_gt (pe_ix ix_list (pv 0) pe_int (fun _ _ => rfl)) pe_int (nomark _))
        (pss_cons (ps_set (i := 2) sc_dip.nd rfl (.inl rfl) (pe_op op_modR (pt call_intI T.z_int (pa_cons (pe_ix ix_list (pv 0) pe_int (fun _ _ => rfl)) pa_nil)) (pv 1)))
        (pss_cons (ps_asg (pe_op op_divR (pe_ix ix_list (pv 0) pe_int (fun _ _ => rfl)) (pv 1)) (pg_sub (pv 0) pe_int set_list))
        (pss_one (ps_ret (pv 2))))) pss_nil)
      (pss_cons (ps_asg (pe_op op_add (pe_ix ix_list (pv 0) pe_int (fun _ _ => rfl)) pe_int) (pg_sub (pv 0) pe_int set_list))
      (pss_cons (ps_set (i := 3) sc_dip.nd rfl (.inl rfl) (pe_op op_modR (pt call_intI T.z_int (pa_cons (pe_op op_add (pe_op op_mulR (pe_ix ix_list (pv 0) pe_int (fun _ _ => rfl)) pe_int) (pe_op op_mulR (pe_ix ix_list (pv 0) pe_int (fun _ _ => rfl)) pe_int)) pa_nil)) pe_int))
      (pss_cons (ps_set (i := 4) sc_dip.nd rfl (.inl rfl) (pe_op op_modR (pt call_intI T.z_int (pa_cons (pe_op op_add (pe_op op_mulR (pv 3) (pv 3)) (pe_op op_mulR pe_int (pe_ix ix_list (pv 0) pe_int (fun _ _ => rfl)))) pa_nil)) pe_int))
      (pss_one (ps_ret (pe_op op_modR (pt call_intI T.z_int (pa_cons (pe_op op_divR (pe_op op_modR (pt call_intI T.z_int (pa_cons (pe_op op_add (pe_op op_mulR (pv 4) pe_int) (pv 3)) pa_nil)) pe_int) pe_int) pa_nil)) (pv 1))))))), ?_⟩
    obtain ⟨p0, p1, p2, e, g0, g1, g1', g2⟩ := hp.ex
    refine ⟨_, rfl, a, _, 0, .int p0, rfl, rfl, SqL.of e, rfl, _, _, rfl, rfl, _, rfl, ?_⟩
    refine ite2 (fun hc => ?_) (fun hc => ?_)
    · have hc : 0 < p0 := of_decide_eq_true hc
      refine ⟨_, rfl, a, _, 0, .int p0, rfl, rfl, SqL.of e, rfl, _, rfl, ?_⟩
      refine ⟨_, rfl, _, _, rfl, rfl, h0, fun r r0 r1 => ?_⟩
      refine ⟨_, rfl, a, _, 0, .int p0, rfl, rfl, SqL.of e, rfl, ?_⟩
      refine ⟨_, rfl, _, _, rfl, rfl, by omega, h0, hn, fun d d0 d1 => ?_⟩
      refine ⟨_, rfl, a, _, 0, 0, rfl, rfl, e, rfl, ?_⟩
      refine ⟨_, rfl, ?_⟩
      exact k _ _ r0 r1 ⟨⟨_, _, _, upd_same, d0, g1, g1', g2⟩, by rw [hid_upd_self]; exact Same.refl _⟩
    · refine ⟨_, rfl, a, _, 2, .int p2, rfl, rfl, SqL.of e, rfl, _, _, rfl, rfl, ?_⟩
      refine ⟨_, rfl, a, _, 2, 2, rfl, rfl, e, rfl, ?_⟩
      refine ⟨_, rfl, a, _, 1, .int p1, rfl, rfl, SqL.of upd_same, rfl, _, _, rfl, rfl, .inl ⟨by omega, by omega⟩, fun m1 _ => ?_⟩
      refine ⟨_, rfl, a, _, 2, .int (p2 + 1), rfl, rfl, SqL.of upd_same, rfl, _, _, rfl, rfl, .inr ⟨by omega, by omega⟩, fun m2 _ => ?_⟩
      refine ⟨_, _, rfl, rfl, _, rfl, _, _, rfl, rfl, by omega, fun o1 o10 o11 => ?_⟩
      refine ⟨_, rfl, _, rfl, _, _, rfl, rfl, .inl ⟨by omega, by omega⟩, fun m3 _ => ?_⟩
      refine ⟨_, rfl, a, _, 2, .int (p2 + 1), rfl, rfl, SqL.of upd_same, rfl, _, _, rfl, rfl, .inl ⟨by omega, by omega⟩, fun m4 _ => ?_⟩
      refine ⟨_, _, rfl, rfl, _, rfl, _, _, rfl, rfl, by omega, fun t1 t10 t11 => ?_⟩
      refine ⟨_, rfl, _, _, rfl, rfl, .inl ⟨by omega, by omega⟩, fun m5 _ => ?_⟩
      refine ⟨_, rfl, _, _, rfl, rfl, _, rfl, _, _, rfl, rfl, by omega, fun r1 r10 r11 => ?_⟩
      refine ⟨_, _, rfl, rfl, r10, by omega, by omega, fun r2 r20 r21 => ?_⟩
      refine ⟨_, rfl, _, rfl, _, _, rfl, rfl, h0, fun r3 r30 r31 => ?_⟩
      exact k _ _ r30 r31 ⟨⟨_, _, _, upd_same, g0, g1, g1', by omega⟩, by rw [hid_upd_self]; exact Same.refl _⟩
end
end Fs
namespace Fs
open PySem PySem.Spec PyProof.Rows L2

/-! ### the law's call, from such a promise -/
section
variable {P : Program} {w : World} {K : PySem.W.Frag} {mg mb : Str → Option Value} {CX : CXT} {k : Nat} {fa a : Addr} {fd : FuncData} {x : Str} {sp : Sp} {s1 : Shared} {vs : List Value} {ns : List Int}
/-- from an abstract heap that knows at most the script -/
theorem begin_at (inK : K.In s1.heap) (n1 : s1.heap.Ns mainGlobals mg) (n2 : s1.heap.Ns builtinsNs mb) (n3 : ∀ y : Str, y ≠ "__name__" → mb y = bootBuiltins y) (lim : s1.heap.NoLimit) (gens : s1.gens = #[])
    (obj : s1.heap.get? a = some { cls := .type "list", data := .seq vs.toArray }) (room : Room k callerA)
    (F : ∀ base : Heap, K.In base → base.Ns mainGlobals mg → FnG P w K mg base CX k fa fd [x] sp) (bind : ∀ (s : Shared) (u : Value), BindsTo s fd ⟨[u], []⟩ [(x, u)])
    (H : Hp) (only : Only H) (want : sp [.ref a] H (fun v _ => v = .bl true) fun _ _ _ => False) (hok : HOk P w H s1.heap) (knows : ∀ b, H b ≠ none → b = a) (own : H a ≠ none → K.lookup a = none)
    (exc : ∀ e s', CX [] H s1 (fun _ _ _ => False) e s' → False) :
    codeAny (model P w) callerA (.call (.ref fa) ⟨[.ref a], []⟩) (fun r s' => r = .ok (.ret (.bool true)) ∧ OldK s1.heap s'.heap ∧ s'.os = s1.os ∧ AllBare s'.gens) s1 := by
  have not_dict : ∀ (b : Addr) (o : Obj) (es : Array DictEntry) (ep : Nat), s1.heap.get? b = some o → o.data = .dict es ep → H b = none := by
    intro b o es ep h1 h2
    by_cases hb : H b = none
    · exact hb
    · have e1 := knows b hb
      rw [e1, obj] at h1
      cases h1
      cases h2
  have nsp : ∀ (b : Addr) (m : Str → Option Value), s1.heap.Ns b m → (hidT s1.heap H).Ns b m := by
    rintro b m ⟨o, es, ep, h1, h2, h3⟩
    exact ⟨o, es, ep, hidT_get h1 (not_dict b o es ep h1 h2), h2, h3⟩
  have inB : K.In (hidT s1.heap H) := by
    intro b o h1
    refine hidT_get (inK b o h1) ?_
    by_cases hb : H b = none
    · exact hb
    · have e1 := knows b hb
      rw [e1] at h1 hb
      have e2 := own hb
      rw [e2] at h1
      cases h1
  have md : Mod K mg (hidT s1.heap H) := by
    refine ⟨inB, nsp _ _ n1, ⟨mb, nsp _ _ n2, n3⟩, ?_⟩
    obtain ⟨mc, h1, h2⟩ := lim
    exact ⟨mc, nsp _ _ h1, h2⟩
  have e0 : Env0 P w K mg (hidT s1.heap H) callerA [] s1 H :=
    ⟨rfl, md, fun _ _ h1 => of_hidT h1, Nat.le_of_eq (hidT_size _ _), trivial, (fun _ hb => nomatch hb), hok, .of_eq gens⟩
  have run := (F _ inB (nsp _ _ n1)).goes callerA [] s1 H ⟨[.ref a], []⟩ [.ref a] [.ref a] _ _ room rfl e0 (bind s1 (.ref a)) (.cons rfl .nil) want
  refine codeAny_mono run ?_
  intro r s' h
  match r, h with
  | .error e, h => exact (exc e s' h).elim
  | .ok .next, h => exact h.elim
  | .ok .brk, h => exact h.elim
  | .ok .cont, h => exact h.elim
  | .ok (.ret u), h =>
    obtain ⟨v, H', os, bare, un, hok', rel, q⟩ := h
    have q : v = .bl true := q
    subst q
    have eu : u = Value.bool true := rel
    subst eu
    refine ⟨rfl, OldK.of_keep ?_, os, bare⟩
    intro b o h1
    rcases only b with z | ⟨ob, ys, z⟩
    · exact un.keep b o h1 z (fun c => by cases c) (fun c => by cases c)
    · have g1 := (hok b _ z).1
      have g2 := (hok' b _ (un.frzs b ob _ z)).1
      rw [h1] at g1
      cases g1
      exact g2
theorem ints_vals : ∀ {us : List Value} {ms : List Int}, IntsAre us ms → Vals (ms.map V.int) us
  | [], [], .nil => Paired.nil
  | _ :: _, _ :: _, .cons n t h => Paired.cons ⟨t, rfl⟩ (ints_vals h)
theorem begin_g (inK : K.In s1.heap) (n1 : s1.heap.Ns mainGlobals mg) (n2 : s1.heap.Ns builtinsNs mb) (n3 : ∀ y : Str, y ≠ "__name__" → mb y = bootBuiltins y) (lim : s1.heap.NoLimit) (gens : s1.gens = #[])
    (obj : s1.heap.get? a = some { cls := .type "list", data := .seq vs.toArray }) (itv : IntsAre vs ns) (len : ns.length ≤ sizeLine) (room : Room k callerA)
    (F : ∀ base : Heap, K.In base → base.Ns mainGlobals mg → FnG P w K mg base CX k fa fd [x] sp) (bind : ∀ (s : Shared) (u : Value), BindsTo s fd ⟨[u], []⟩ [(x, u)])
    (want : ∀ H : Hp, Only H → SqL K H a (ns.map V.int) → sp [.ref a] H (fun v _ => v = .bl true) fun _ _ _ => False) (exc : ∀ H e s', CX [] H s1 (fun _ _ _ => False) e s' → False) :
    codeAny (model P w) callerA (.call (.ref fa) ⟨[.ref a], []⟩) (fun r s' => r = .ok (.ret (.bool true)) ∧ OldK s1.heap s'.heap ∧ s'.os = s1.os ∧ AllBare s'.gens) s1 := by
  have rel := ints_vals itv
  have sz : (ns.map V.int).length ≤ sizeLine := by rw [List.length_map]; exact len
  by_cases hk : ∃ o, K.lookup a = some o
  · obtain ⟨o, hk⟩ := hk
    have eo := (inK a o hk).symm.trans obj
    cases eo
    have only : Only (fun _ => none) := fun _ => Or.inl rfl
    exact begin_at inK n1 n2 n3 lim gens obj room F bind _ only (want _ only (Or.inr ⟨_, vs.toArray, _, hk, rfl, rfl, rfl, by rw [List.size_toArray, itv.length]; exact len, by simpa using rel⟩))
      (fun _ _ z => nomatch z) (fun _ z => (z rfl).elim) (fun z => (z rfl).elim) (exc _)
  · have hk' : K.lookup a = none := by
      cases q : K.lookup a with
      | none => rfl
      | some o => exact (hk ⟨o, q⟩).elim
    let H0 : Hp := upd (fun _ => none) a (.frz { cls := .type "list", data := .seq vs.toArray } (.lst (ns.map V.int)))
    have at_a : H0 a = some (.frz { cls := .type "list", data := .seq vs.toArray } (.lst (ns.map V.int))) := upd_same
    have off : ∀ b, b ≠ a → H0 b = none := fun b hb => upd_ne hb
    have only : Only H0 := fun b => if e : b = a then Or.inr ⟨_, _, e ▸ at_a⟩ else Or.inl (off b e)
    refine begin_at inK n1 n2 n3 lim gens obj room F bind H0 only (want _ only (Or.inl (Or.inr ⟨_, at_a⟩))) ?_ (fun b hb => ?_) (fun _ => hk') (exc _)
    · intro b u hb
      by_cases e : b = a
      · subst e
        rw [at_a] at hb
        cases hb
        exact ⟨obj, sz, vs, _, rel, obj⟩
      · rw [off b e] at hb
        cases hb
    · by_cases e : b = a
      · exact e
      · exact (hb (off b e)).elim
end
theorem walk_g {l : PySem.W.OpenLaw} {n k : Nat} {q : Program} {loose : List Str} {XP : (Str → Option Value) → Heap → Prop} {YP : World → Heap → Prop} {d : DefRec} {K : Params → PySem.W.Frag} {CX : World → CXT} {sp : World → Sp} {x : Str}
    (h1 : l.most = some n) (h2 : n ≤ sizeLine) (h3 : d.params.defaults = []) (room : Room k callerA) (inK : ∀ (w : World) (h : Heap), YP w h → (K w.params).In h)
    (F : ∀ (w : World) (mg : Str → Option Value) (fa : Addr) (h : Heap), (K w.params).In h → h.Ns mainGlobals mg → mg d.name = some (.ref fa) → ∃ fd : FuncData, (∀ (s : Shared) (u : Value), BindsTo s fd ⟨[u], []⟩ [(x, u)]) ∧
      ∀ base : Heap, (K w.params).In base → base.Ns mainGlobals mg → FnG l.prog w (K w.params) mg base (CX w) k fa fd [x] (sp w))
    (want : ∀ (w : World) (H : Hp) (a : Addr) (ns : List Int), ns.length ≤ n → Only H → SqL (K w.params) H a (ns.map V.int) → sp w [.ref a] H (fun v _ => v = .bl true) fun _ _ _ => False)
    (exc : ∀ (w : World) (H : Hp) (s : Shared) (e : Value) (s' : Shared), CX w [] H s (fun _ _ _ => False) e s' → False) : PySem.W.WalkO q loose XP YP l.row.toRowW d [] (fun f vs => PySem.call f vs) := by
  apply Att.attach_call h1 h3
  intro w s₀ s₁ mg mb fa o pm cd doc a vs ns G Y _ _ _ hmg obj itv len gens
  have inH := inK w _ Y
  obtain ⟨fd, bind, FF⟩ := F w mg fa _ inH G.T.g hmg
  exact begin_g inH G.T.g G.T.b G.T.builtins G.T.nolimit gens obj itv (Nat.le_trans len h2) room FF bind (fun H c1 c2 => want w H a ns len c1 c2) (fun H e s' c => exc w H s₁ e s' c)
end Fs
namespace Fs
open PySem PySem.Spec PyProof.Rows L2

theorem IxR.imp {X : Cx} {r r' : R2} (h : IxR X r) (hi : ∀ x y H Q, r' x y H Q → r x y H Q) : IxR X r' :=
  fun value slice pins s σ H x y v u Q I rx ry q e => h value slice pins s σ H x y v u Q I rx ry (hi x y H Q q) e
/-- one sign as a text -/
abbrev S1 (c : Nat) : V := .str ⟨#[c]⟩
/-- what may be drawn from: a list, a tuple, a text, with these items -/
def Of3 (K : PySem.W.Frag) (H : Hp) (x : V) (l : List V) : Prop := (∃ p, x = .ref p ∧ (SqL K H p l ∨ SqT K H p l)) ∨ ∃ z : Str, x = .str z ∧ z.length ≤ 100000 ∧ l = z.cps.toList.map S1
theorem same_tup {K : PySem.W.Frag} {H H' : Hp} {a : Addr} {xs : List V} (e : Same H H') (h : SqT K H a xs) : SqT K H' a xs := by
  rcases h with (h | ⟨o, h⟩) | h
  · exact .inl (.inl (e _ _ h))
  · exact .inl (.inr ⟨o, e _ _ h⟩)
  · exact .inr h
theorem Of3.same {K : PySem.W.Frag} {H H' : Hp} {x : V} {l : List V} (e : Same H H') (h : Of3 K H x l) : Of3 K H' x l := by
  rcases h with ⟨p, ex, h | h⟩ | h
  · exact .inl ⟨p, ex, .inl (e.seq h)⟩
  · exact .inl ⟨p, ex, .inr (same_tup e h)⟩
  · exact .inr h
theorem Of3.lst {K : PySem.W.Frag} {H : Hp} {p : Addr} {l : List V} (h : H p = some (.lst l)) : Of3 K H (.ref p) l := .inl ⟨p, rfl, .inl (SqL.of h)⟩
theorem Of3.tup {K : PySem.W.Frag} {H : Hp} {p : Addr} {l : List V} (h : H p = some (.tup l)) : Of3 K H (.ref p) l := .inl ⟨p, rfl, .inr (SqT.of h)⟩
theorem Of3.str {K : PySem.W.Frag} {H : Hp} {z : Str} (h : z.length ≤ 100000) : Of3 K H (.str z) (z.cps.toList.map S1) := .inr ⟨z, rfl, h, rfl⟩
section
variable {X : Cx}
def rLen3 (K : PySem.W.Frag) : List V → Hp → VK → Prop := fun xs H Q => ∃ x l, xs = [x] ∧ Of3 K H x l ∧ Q (.int l.length) H
theorem call_len3 : CallR X (.builtin "len") (rLen3 X.K) := CallR.imp (CallR.or call_len_seq call_len_str) fun xs H Q ⟨x, l, e, h, q⟩ => by
  rcases h with ⟨p, ex, h⟩ | ⟨z, ex, hz, el⟩
  · subst ex
    exact .inl ⟨p, l, e, h, q⟩
  · subst ex el
    refine .inr ⟨z, e, Nat.le_trans hz (by decide), ?_⟩
    rw [List.length_map] at q
    exact q
def rIx3 (K : PySem.W.Frag) : R2 := fun x y H Q => ∃ l i v, y = .int i ∧ Of3 K H x l ∧ 0 ≤ i ∧ l[i.toNat]? = some v ∧ Q v H
theorem atI_of {α : Type} {l : List α} {i : Int} {v : α} (h0 : 0 ≤ i) (h : l[i.toNat]? = some v) : atI l i = some v := by
  have e : ((i.toNat : Nat) : Int) = i := Int.toNat_of_nonneg h0
  rw [← e]
  exact atI_nat h
theorem ix_3 : IxR X (rIx3 X.K) := IxR.imp ix_seq fun x y H Q ⟨l, i, v, ey, h, h0, hv, q⟩ => by
  subst ey
  rcases h with ⟨p, ex, h | h⟩ | ⟨z, ex, hz, el⟩
  · subst ex
    exact .inl ⟨p, l, i, v, rfl, rfl, h, atI_of h0 hv, q⟩
  · subst ex
    exact .inr (.inl ⟨p, l, i, v, rfl, rfl, h, atI_of h0 hv, q⟩)
  · subst ex el
    rw [List.getElem?_map] at hv
    obtain ⟨c, hc, ec⟩ := Option.map_eq_some_iff.mp hv
    subst ec
    exact .inr (.inr ⟨z, i, c, rfl, rfl, Nat.le_trans hz (by decide), atI_of h0 hc, q⟩)
/-- list(x) -/
def rList3 (K : PySem.W.Frag) : List V → Hp → VK → Prop := fun xs H Q => ∃ x l, xs = [x] ∧ Of3 K H x l ∧ ∀ p, H p = none → Q (.ref p) (upd H p (.lst l))
theorem call_listS (hc : X.calm = true) : CallR X (.type "list") (fun xs H Q => ∃ z : Str, xs = [.str z] ∧ z.length ≤ 100000 ∧ ∀ p, H p = none → Q (.ref p) (upd H p (.lst (z.cps.toList.map S1)))) := by
  intro pins s σ H xs us Q I rel h
  obtain ⟨z, ex, hz, q⟩ := h
  subst ex
  obtain ⟨u, eu, rx⟩ := vals1 rel
  subst eu
  obtain ⟨t, et⟩ := rx
  subst et
  have hz' : z.cps.size ≤ sizeLine := Nat.le_trans hz (by decide)
  refine call_list_str (I.ok.hd hc) z t (fun h' tk acc c kp at_ of_ => ?_) hz'
  refine ⟨.ref _, _, I.laid (t' := tk) kp (Nat.le_refl _) (show ObjOk X.prog X.w _ h' _ (.lst (z.cps.toList.map S1)) from ⟨?_, acc.toList, c, ?_, by simpa using at_⟩), rfl, q _ (I.hok.fresh (Nat.le_refl _))⟩
  · rw [List.length_map, Array.length_toList]; exact hz'
  · refine vals_of_at (by rw [List.length_map, Array.length_toList, Array.length_toList]; exact of_.1.symm) fun j x w h1 h2 => ?_
    rw [Array.getElem?_toList] at h2
    obtain ⟨c', t', hc', ew⟩ := of_.2 j w h2
    subst ew
    rw [List.getElem?_map, Array.getElem?_toList, hc'] at h1
    cases h1
    exact ⟨t', rfl⟩
theorem call_list3 (hc : X.calm = true) : CallR X (.type "list") (rList3 X.K) := CallR.imp (CallR.or call_list_of (call_listS hc)) fun xs H Q ⟨x, l, e, h, q⟩ => by
  rcases h with ⟨p, ex, h⟩ | ⟨z, ex, hz, el⟩
  · subst ex
    exact .inl ⟨p, l, e, h, q⟩
  · subst ex el
    exact .inr ⟨z, e, hz, q⟩
/-- a ** b for written numbers -/
abbrev CPowR (i j : Int) : Prop := ¬ i = 0 ∧ ¬ i = 1 ∧ ¬ i = -1 ∧ 0 < j ∧ Builtin.Int.intTooBig (((Builtin.Int.intBits i : Nat) : Int) * j) = false
theorem op_powR : OpR X (binaryOp .Pow) (rI CPowR fun i j => .int (i ^ j.toNat)) := opI fun i j t u s Q E c q =>
  PySem.AutoIntOps.pow_4 (by have := c.2.2.2.1; omega) (by have := c.2.2.2.1; simp; omega) (by have h1 := c.1; have h2 := c.2.1; simp [h1, h2]) (by have := c.2.2.1; simpa using this) (by rw [c.2.2.2.2]; decide) q
end
end Fs
namespace Fs
open PySem PySem.Spec PyProof.Rows L2
section
variable {P : Program} {w : World} {K : PySem.W.Frag} {mg : Str → Option Value} {base : Heap}
theorem seqIndex_of {r : Int} {n : Nat} (h0 : 0 ≤ r) (h1 : r < (n : Int)) : seqIndex? r n = some r.toNat := by
  unfold seqIndex?
  have h2 : ¬ r < 0 := by omega
  simp [h2, h0, h1]
theorem erase_perm {α : Type} : ∀ (l : List α) (i : Nat) (h : i < l.length), (l[i] :: l.eraseIdx i).Perm l
  | x :: l, 0, _ => List.Perm.refl _
  | x :: l, i + 1, h => by
    have h' : i < l.length := Nat.lt_of_succ_lt_succ h
    show (l[i] :: x :: l.eraseIdx i).Perm (x :: l)
    exact (List.Perm.swap _ _ _).trans (List.Perm.cons x (erase_perm l i h'))
/-- one of the items -/
def spChoose (K : PySem.W.Frag) : Sp := fun vs H Q _ => ∃ (a : Addr) (x : V) (l : List V), vs = [.ref a, x] ∧ Pot H a ∧ Of3 K (hid a H) x l ∧ l ≠ [] ∧ l.length ≤ 100000 ∧ ∀ (v : V) (H' : Hp), v ∈ l → Stp a H H' → Q v H'
abbrev s_choose : Stmt := top 21
theorem sc_choose : FnScope ["pot", "items"] ["pot", "items"] (defScope s_choose) := ⟨rfl, rfl, rfl, by decide +kernel, rfl, by decide +kernel, by decide +kernel⟩
theorem cal_choose (T : Bs mg) (D : Df K mg "_law_choose" s_choose ["pot", "items"]) (C_dip : Cal P w K mg base 1 "_law_dip" spDip) : Cal P w K mg base 2 "_law_choose" (spChoose K) := by
  refine D.cal sc_choose (fun vs H Q E h => ?_) (fun f cdv A outer s H vs Q E hr h => ?_)
  · obtain ⟨a, x, l, rfl, _⟩ := h
    rfl
  · obtain ⟨a, x, l, rfl, hp, h3, hne, hl, k⟩ := h
    refine ⟨_, pss_one (ps_ret (pe_ix ix_3 (pv 1) (pc C_dip hr (pa_cons (pv 0) (pa_cons (pb call_len3 T.z_len (pa_cons (pv 1) pa_nil)) pa_nil))) (fun _ _ => rfl))), ?_⟩
    have hpos : 0 < l.length := List.length_pos_iff.mpr hne
    refine ⟨_, rfl, _, rfl, _, rfl, x, l, rfl, h3.same (hid_le a H), a, (l.length : Int), rfl, hp, by omega, by omega, fun r H' r0 r1 st => ?_⟩
    have hi : r.toNat < l.length := by omega
    exact ⟨l, r, l[r.toNat], rfl, (h3.same st.same).same (hid_le a H'), r0, by simp [hi], k _ _ (List.getElem_mem hi) st⟩
/-- the items in any order, as a new list -/
def spShuf (K : PySem.W.Frag) : Sp := fun vs H Q _ => ∃ (a : Addr) (x : V) (l : List V), vs = [.ref a, x] ∧ Pot H a ∧ Of3 K (hid a H) x l ∧ l.length ≤ 100000 ∧
  ∀ (p : Addr) (l' : List V) (H' : Hp), l'.Perm l → H p = none → H' p = some (.lst l') → Stp a H H' → Q (.ref p) H'
abbrev s_shuffled : Stmt := top 22
theorem sc_shuffled : FnScope ["pot", "items", "left", "turn"] ["pot", "items"] (defScope s_shuffled) := ⟨rfl, rfl, rfl, by decide +kernel, rfl, by decide +kernel, by decide +kernel⟩
theorem cal_shuffled (T : Bs mg) (D : Df K mg "_law_shuffled" s_shuffled ["pot", "items"]) (C_dip : Cal P w K mg base 1 "_law_dip" spDip) : Cal P w K mg base 2 "_law_shuffled" (spShuf K) := by
  refine D.cal sc_shuffled (fun vs H Q E h => ?_) (fun f cdv A outer s H vs Q E hr h => ?_)
  · obtain ⟨a, x, l, rfl, _⟩ := h
    rfl
  · obtain ⟨a, x, l, rfl, hp, h3, hl, k⟩ := h
    refine ⟨_, pss_cons (ps_set (i := 2) sc_shuffled.nd rfl (.inr rfl) (pt (call_list3 rfl) T.z_list (pa_cons (pv 1) pa_nil)))
      (pss_one (ps_ret (pe_lc (own := [("turn", 3)]) (te := (tBM K "list" rPopAt (tVar 2) (tCons (tCallS spDip (fun _ => E0) (tCons (tVar 0) (tCons (tCB (rLen3 K) (tCons (tVar 2) tNil)) tNil))) tNil))) rfl sc_shuffled.nd (pi_range1 (by rfl) T.z_range (pa_cons (pb call_len3 T.z_len (pa_cons (pv 1) pa_nil)) pa_nil)) (blkOk_by (N := ["pot", "items", "left", "turn"]) (sc := defScope s_shuffled) (by decide +kernel)) (fun _ _ _ _ _ => (pg_name (i := 3) sc_shuffled.nd rfl (Or.inl rfl))) (fun _ _ _ _ _ => pts_nil) (fun _ _ _ _ _ => (pe_bm PySem.F.plainAttrs_list PySem.F.slot_list_pop PySem.F.type_list_pop mt_popAt (pv 2) (pa_cons (pc C_dip hr (pa_cons (pv 0) (pa_cons (pb call_len3 T.z_len (pa_cons (pv 2) pa_nil)) pa_nil))) pa_nil)))))), ?_⟩
    refine ⟨_, rfl, x, l, rfl, h3.same (hid_le a H), fun q hq => ?_⟩
    have st1 : Stp a H (upd H q (.lst l)) := (Stp.refl hp).new hq
    refine ⟨_, rfl, x, l, rfl, (h3.same st1.same).same (hid_le a _), _, rfl, by omega, by omega, fun D hD => ?_⟩
    have hqa : q ≠ a := hp.ne hq
    have hD0 : H D = none := st1.free hD (st1.pot.ne hD)
    have hDa : D ≠ a := st1.pot.ne hD
    have hDq : D ≠ q := fun e => by rw [e, upd_same] at hD; cases hD
    refine lc_range (fun i H1 => ∃ acc left : List V, Stp a H H1 ∧ H1 q = some (.lst left) ∧ H1 D = some (.lst acc) ∧ acc.length = i ∧ (acc ++ left).Perm l) ?_ ?_ ?_
    · exact ⟨[], l, st1.new hD, by rw [upd_ne hDq.symm, upd_same], upd_same, rfl, List.Perm.refl _⟩
    · rintro i H1 hi ⟨acc, left, st, hleft, hacc, hlen, perm⟩
      have hll : acc.length + left.length = l.length := by rw [← perm.length_eq, List.length_append]
      have hi : i < l.length := by simpa using hi
      refine ⟨rfl, _, rfl, .inl ⟨rfl, _, SqL.of hleft⟩, _, rfl, _, rfl, _, left, rfl, Of3.lst hleft, a, (left.length : Int), rfl, st.pot, by omega, by omega, fun r H2 r0 r1 st2 => ?_⟩
      have hr' : r.toNat < left.length := by omega
      have hleft2 := st2.get hleft hqa
      have hacc2 := st2.get hacc hDa
      refine ⟨q, left, r, r.toNat, left[r.toNat], rfl, rfl, hleft2, by omega, by omega, ?_, by simp [hr'], acc, ?_, ?_, acc ++ [left[r.toNat]], left.eraseIdx r.toNat, ?_, ?_, upd_same, ?_, ?_⟩
      · exact seqIndex_of r0 r1
      · rw [upd_ne hDq]; exact hacc2
      · have : sizeLine = 16777216 := sizeLine_eq
        omega
      · exact ((st.trans st2).mut hq hqa).mut hD0 hDa
      · rw [upd_ne hDq.symm, upd_same]
      · rw [List.length_append, hlen]; rfl
      · rw [List.append_assoc]
        exact (List.Perm.append_left acc (erase_perm left r.toNat hr')).trans perm
    · rintro H1 ⟨acc, left, st, hleft, hacc, hlen, perm⟩
      have hll : acc.length + left.length = l.length := by rw [← perm.length_eq, List.length_append]
      have h0 : left = [] := List.eq_nil_of_length_eq_zero (by simp at hlen; omega)
      subst h0
      rw [List.append_nil] at perm
      exact k _ _ _ perm hD0 hacc st
end
end Fs
namespace Fs
open PySem PySem.Spec PyProof.Rows L2

/-! ### letters, names, signs -/
def lowL (l : List Nat) : Bool := l.all fun c => decide (97 ≤ c) && decide (c ≤ 122)
def ascL : List Nat → Bool
  | [] => true
  | [_] => true
  | a :: b :: r => decide (a < b) && ascL (b :: r)
def nameL (l : List Nat) : Bool := decide (1 ≤ l.length) && decide (l.length ≤ 8) && lowL l && !decide (l = [101, 110, 100])
def signsL (l : List Nat) : Bool := decide (1 ≤ l.length) && decide (l.length ≤ 4) && lowL l && ascL l
abbrev cps (x : Str) : List Nat := x.cps.toList
theorem cps_S (l : List Nat) : cps (SX.S l) = l := rfl
theorem len_cps (x : Str) : x.length = (cps x).length := (Array.length_toList ..).symm
theorem cps_inj {x y : Str} (h : cps x = cps y) : x = y := by
  rw [← SX.S_tl x, ← SX.S_tl y]
  exact congrArg SX.S h
theorem joinL_nil : ∀ ls : List (List Nat), TL.joinL [] ls = ls.flatten
  | [] => rfl
  | [l] => by simp [TL.joinL]
  | l :: m :: r => by
    show l ++ ([] ++ TL.joinL [] (m :: r)) = _
    rw [joinL_nil (m :: r)]
    simp
theorem cps_join (ys : List Str) : cps (Txt.join "" ys) = (ys.map cps).flatten := by
  rw [TL.join_eq]
  exact (TL.tl_join "" ys).trans (joinL_nil _)
/-- one-letter texts -/
def onesL (ys : List Str) : Prop := ∀ y ∈ ys, ∃ c, cps y = [c] ∧ 97 ≤ c ∧ c ≤ 122
theorem ones_flat : ∀ {ys : List Str}, onesL ys → ((ys.map cps).flatten).length = ys.length ∧ lowL (ys.map cps).flatten = true
  | [], _ => ⟨rfl, rfl⟩
  | y :: ys, h => by
    obtain ⟨c, e, h1, h2⟩ := h y (List.mem_cons_self ..)
    obtain ⟨i1, i2⟩ := ones_flat (ys := ys) fun z hz => h z (List.mem_cons_of_mem _ hz)
    rw [List.map_cons, List.flatten_cons, e]
    refine ⟨by rw [List.length_append, i1]; simp; omega, ?_⟩
    show lowL (c :: _) = true
    unfold lowL at i2 ⊢
    show ((decide (97 ≤ c) && decide (c ≤ 122)) && ((ys.map cps).flatten.all fun c => decide (97 ≤ c) && decide (c ≤ 122))) = true
    rw [i2, decide_eq_true h1, decide_eq_true h2]
    rfl
theorem ones_len {ys : List Str} (h : onesL ys) : (ys.map (·.length)).sum = ys.length := by
  induction ys with
  | nil => rfl
  | cons y ys ih =>
    obtain ⟨c, e, _⟩ := h y (List.mem_cons_self ..)
    rw [List.map_cons, List.sum_cons, ih fun z hz => h z (List.mem_cons_of_mem _ hz), len_cps, e]
    simp; omega
theorem inV_str (x : Str) : ∀ xs : List Str, inV (.str x) (xs.map V.str) = decide (x ∈ xs)
  | [] => rfl
  | y :: xs => by
    show ((y == x) || inV (.str x) (xs.map V.str)) = _
    rw [inV_str x xs]
    by_cases e : y = x
    · subst e; simp
    · have e' : ¬ x = y := fun q => e q.symm
      have hb : (y == x) = false := beq_eq_false_iff_ne.mpr e
      rw [hb]; simp [e']
theorem all_flat (xs : List Str) : (xs.map V.str).all flatV = true := by
  induction xs with
  | nil => rfl
  | cons x xs ih => rw [List.map_cons, List.all_cons, ih]; rfl
/-- a new list's items may be drawn -/
theorem Of3.newL {K : PySem.W.Frag} {H : Hp} {a p : Addr} {l : List V} (hp : p ≠ a) : Of3 K (hid a (upd H p (.lst l))) (.ref p) l := .lst (by rw [hid_ne hp, upd_same])
theorem pigeon {α : Type} [DecidableEq α] : ∀ {l m : List α}, l.Nodup → (∀ x ∈ l, x ∈ m) → l.length ≤ m.length
  | [], _, _, _ => Nat.zero_le _
  | x :: l, m, nd, h => by
    have nd' := List.nodup_cons.mp nd
    have hx := h x (List.mem_cons_self ..)
    have := pigeon (l := l) (m := m.erase x) nd'.2 fun y hy => (List.mem_erase_of_ne (fun (e : y = x) => nd'.1 (by rw [← e]; exact hy))).mpr (h y (List.mem_cons_of_mem _ hy))
    rw [List.length_erase_of_mem hx] at this
    have : 0 < m.length := List.length_pos_of_mem hx
    simp only [List.length_cons]; omega

section
variable {P : Program} {w : World} {K : PySem.W.Frag} {mg : Str → Option Value} {base : Heap}
/-- a drawn name -/
def spName : Sp := fun vs H Q _ => ∃ a : Addr, vs = [.ref a] ∧ Pot H a ∧ ∀ (x : Str) (H' : Hp), nameL (cps x) = true → Stp a H H' → Q (.str x) H'
abbrev s_name : Stmt := top 23
theorem sc_name : FnScope ["pot", "letters", "word", "found", "turn"] ["pot"] (defScope s_name) := ⟨rfl, rfl, rfl, by decide +kernel, rfl, by decide +kernel, by decide +kernel⟩
theorem cal_name (T : Bs mg) (D : Df K mg "_law_name" s_name ["pot"]) (C_dip : Cal P w K mg base 1 "_law_dip" spDip) (C_choose : Cal P w K mg base 2 "_law_choose" (spChoose K)) : Cal P w K mg base 3 "_law_name" spName := by
  refine D.cal sc_name (fun vs H Q E h => ?_) (fun f cdv A outer s H vs Q E hr h => ?_)
  · obtain ⟨a, rfl, _⟩ := h
    rfl
  · obtain ⟨a, rfl, hp, k⟩ := h
    refine ⟨_, pss_cons (ps_set (i := 1) sc_name.nd rfl (.inr rfl) (pc C_choose hr (pa_cons (pv 0) (pa_cons (pe_lst (pa_cons pe_str (pa_cons pe_str (pa_cons pe_str (pa_cons pe_str pa_nil))))) pa_nil))))
      (pss_cons (ps_set (i := 2) sc_name.nd rfl (.inl rfl) (pe_join pe_str (pe_lc (own := [("turn", 4)]) (te := (tCallS (spChoose K) (fun _ => E0) (tCons (tVar 0) (tCons (tVar 1) tNil)))) rfl sc_name.nd (pi_range1 (by rfl) T.z_range (pa_cons (pe_op op_add pe_int (pc C_dip hr (pa_cons (pv 0) (pa_cons (pc C_choose hr (pa_cons (pv 0) (pa_cons (pe_lst (pa_cons pe_int (pa_cons pe_int (pa_cons pe_int pa_nil)))) pa_nil))) pa_nil)))) pa_nil)) (blkOk_by (N := ["pot", "letters", "word", "found", "turn"]) (sc := defScope s_name) (by decide +kernel)) (fun _ _ _ _ _ => (pg_name (i := 4) sc_name.nd rfl (Or.inl rfl))) (fun _ _ _ _ _ => pts_nil) (fun _ _ _ _ _ => (pc C_choose hr (pa_cons (pv 0) (pa_cons (pv 1) pa_nil)))))))
      (pss_cons (ps_set (i := 3) sc_name.nd rfl (.inl rfl) (pc C_choose hr (pa_cons (pv 0) (pa_cons (pe_lst (pa_cons (pv 2) (pa_cons (pv 2) (pa_cons (pv 2) (pa_cons pe_str (pa_cons pe_str (pa_cons pe_str (pa_cons pe_str (pa_cons pe_str (pa_cons pe_str (pa_cons pe_str (pa_cons pe_str (pa_cons pe_str pa_nil))))))))))))) pa_nil))))
      (pss_one (ps_ret (pe_ifExp (pt_cmpR op_ne (pv 3) pe_str (nomark _)) (pv 3) pe_str))))), ?_⟩
    refine ⟨_, rfl, by decide, fun p1 hp1 => ?_⟩
    have np1 := hp.ne hp1
    refine ⟨a, _, _, rfl, hp.upd np1, Of3.newL np1, by simp, by simp, fun v1 H1 hv1 st1 => ?_⟩
    obtain ⟨z, rfl, hz1, hz2, hz3⟩ : ∃ z : Str, v1 = .str z ∧ cps z ≠ [] ∧ z.length ≤ 100000 ∧ lowL (cps z) = true := by
      simp only [List.mem_cons, List.not_mem_nil, or_false] at hv1
      rcases hv1 with rfl | rfl | rfl | rfl <;> exact ⟨_, rfl, by decide +kernel, by decide +kernel, by decide +kernel⟩
    have s1 : Stp a H H1 := ((Stp.refl hp).new hp1).trans st1
    refine ⟨⟨_, rfl⟩, _, rfl, _, rfl, by decide, fun p2 hp2 => ?_⟩
    have np2 := s1.pot.ne hp2
    refine ⟨a, _, _, rfl, s1.pot.upd np2, Of3.newL np2, by simp, by simp, fun v2 H2 hv2 st2 => ?_⟩
    obtain ⟨n, rfl, hn0, hn1⟩ : ∃ n : Int, v2 = .int n ∧ 0 < n ∧ n ≤ 8 := by
      simp only [List.mem_cons, List.not_mem_nil, or_false] at hv2
      rcases hv2 with rfl | rfl | rfl <;> exact ⟨_, rfl, by decide, by decide⟩
    have s2 := (s1.new hp2).trans st2
    refine ⟨a, n, rfl, s2.pot, hn0, by omega, fun r H3 r0 r1 st3 => ?_⟩
    have s3 := s2.trans st3
    refine ⟨_, _, rfl, rfl, _, rfl, by omega, by omega, fun D hD => ?_⟩
    have hDa : D ≠ a := s3.pot.ne hD
    have hD0 : H D = none := s3.free hD hDa
    refine lc_range (fun i H4 => ∃ ys : List Str, Stp a H H4 ∧ H4 D = some (.lst (ys.map V.str)) ∧ ys.length = i ∧ onesL ys) ?_ ?_ ?_
    · exact ⟨[], s3.new hD, upd_same, rfl, fun y hy => nomatch hy⟩
    · rintro i H4 hi ⟨ys, st, hacc, hlen, ho⟩
      refine ⟨rfl, _, rfl, _, rfl, a, _, _, rfl, st.pot, Of3.str hz2, fun e => hz1 (List.map_eq_nil_iff.mp e), by rw [List.length_map, ← len_cps]; exact hz2, fun v H5 hv st5 => ?_⟩
      obtain ⟨c, hc, rfl⟩ := List.mem_map.mp hv
      have hacc5 := st5.get hacc hDa
      refine ⟨_, hacc5, by rw [List.length_map, sizeLine_eq]; omega, ys ++ [⟨#[c]⟩], (st.trans st5).mut hD0 hDa, by rw [upd_same, List.map_append]; rfl, by simp [hlen], ?_⟩
      intro y hy
      rcases List.mem_append.mp hy with h | h
      · exact ho y h
      · rw [List.mem_singleton.mp h]
        have := List.all_eq_true.mp hz3 c hc
        simp only [Bool.and_eq_true, decide_eq_true_eq] at this
        exact ⟨c, rfl, this⟩
    · rintro H4 ⟨ys, st, hacc, hlen, ho⟩
      obtain ⟨f1, f2⟩ := ones_flat ho
      have hn : ys.length = (1 + r).toNat := hlen
      refine ⟨_, _, ys, rfl, rfl, .inl (SqL.of hacc), (by rw [ones_len ho]; show ys.length + ys.length * 0 ≤ _; omega), ?_⟩
      have e := cps_join ys
      generalize Txt.join "" ys = word at e
      have hw1 : nameL (cps word) = true ∨ cps word = [101, 110, 100] := by
        by_cases c : cps word = [101, 110, 100]
        · exact .inr c
        · refine .inl ?_
          unfold nameL
          rw [e] at c ⊢
          simp only [Bool.and_eq_true, decide_eq_true_eq, Bool.not_eq_true', decide_eq_false_iff_not]
          exact ⟨⟨⟨by omega, by omega⟩, f2⟩, c⟩
      refine ⟨_, rfl, _, rfl, _, rfl, _, rfl, (by show 12 ≤ sizeLine; decide), fun p3 hp3 => ?_⟩
      have np3 := st.pot.ne hp3
      refine ⟨a, _, _, rfl, st.pot.upd np3, Of3.newL np3, by simp, by simp, fun v3 H5 hv3 st5 => ?_⟩
      have s5 := (st.new hp3).trans st5
      obtain ⟨x, rfl, hx⟩ : ∃ x : Str, v3 = .str x ∧ (nameL (cps x) = true ∨ cps x = [101, 110, 100]) := by
        simp only [List.mem_cons, List.not_mem_nil, or_false] at hv3
        rcases hv3 with rfl | rfl | rfl | rfl | rfl | rfl | rfl | rfl | rfl | rfl | rfl | rfl
        · exact ⟨_, rfl, hw1⟩
        · exact ⟨_, rfl, hw1⟩
        · exact ⟨_, rfl, hw1⟩
        all_goals exact ⟨_, rfl, .inl (by decide +kernel)⟩
      refine ⟨_, rfl, rfl, _, rfl, ?_⟩
      by_cases c : x = "end"
      · rw [decide_eq_true (show V.str x = V.str "end" by rw [c])]
        refine iteF ?_
        exact k _ _ (by decide +kernel) s5
      · rw [decide_eq_false (show ¬ V.str x = V.str "end" from fun q => c (by injection q))]
        refine iteT ?_
        refine ⟨_, rfl, k _ _ ?_ s5⟩
        rcases hx with hx | hx
        · exact hx
        · exact (c (cps_inj (hx.trans (by decide +kernel)))).elim
/-- a name that is none of at most five -/
def spFree (K : PySem.W.Frag) : Sp := fun vs H Q _ => ∃ (p : Addr) (xs : List Str), vs = [.ref p] ∧ SqL K H p (xs.map V.str) ∧ xs.length ≤ 5 ∧ ∀ (x : Str) (H' : Hp), nameL (cps x) = true → x ∉ xs → Same H H' → Q (.str x) H'
abbrev s_free : Stmt := top 24
theorem sc_free : FnScope ["names", "name"] ["names"] (defScope s_free) := ⟨rfl, rfl, rfl, by decide +kernel, rfl, by decide +kernel, by decide +kernel⟩
def six : List Str := ["qa", "qb", "qc", "qd", "qe", "qf"]
theorem same_upd {H H1 : Hp} {p : Addr} {o : HO} (e : Same H H1) (hp : H1 p = none) : Same H (upd H1 p o) := fun b u h => by
  have h1 := e b u h
  rw [upd_ne (ne_of_none h1 hp)]; exact h1
theorem same_mut {H H1 : Hp} {p : Addr} {o : HO} (e : Same H H1) (hp : H p = none) : Same H (upd H1 p o) := fun b u h => by
  rw [upd_ne (ne_of_none h hp)]; exact e b u h
theorem cal_free (D : Df K mg "_law_free" s_free ["names"]) : Cal P w K mg base 1 "_law_free" (spFree K) := by
  refine D.cal sc_free (fun vs H Q E h => ?_) (fun f cdv A outer s H vs Q E hr h => ?_)
  · obtain ⟨p, xs, rfl, _⟩ := h
    rfl
  · obtain ⟨p, xs, rfl, hp, hl, k⟩ := h
    refine ⟨_, pss_one (ps_ret (pe_ix ix_list (pe_lc (own := [("name", 1)]) (te := (tVar 1)) (tt := (tTest (tOp (rIn K true) (tVar 1) (tVar 0)))) rfl sc_free.nd (pi_tup (pe_tup (pa_cons pe_str (pa_cons pe_str (pa_cons pe_str (pa_cons pe_str (pa_cons pe_str (pa_cons pe_str pa_nil)))))))) (blkOk_by (N := ["names", "name"]) (sc := defScope s_free) (by decide +kernel)) (fun _ _ _ _ _ => (pg_name (i := 1) sc_free.nd rfl (Or.inl rfl))) (fun _ _ _ _ _ => (pts_one (pt_cmpR op_notIn_seq (pv 1) (pv 0) (by rfl)))) (fun _ _ _ _ _ => (pv 1))) pe_int (fun _ _ => rfl))), ?_⟩
    refine ⟨by decide, fun t ht => ⟨t, rfl, ⟨_, SqT.of upd_same⟩, fun D hD => ?_⟩⟩
    have e1 : Same H (upd H t (.tup (six.map V.str))) := same_upd (Same.refl H) ht
    have hD0 : H D = none := e1.free hD
    have hDt : D ≠ t := fun e => by rw [e, upd_same] at hD; cases hD
    refine lc_tup (K := K) (a := t) (xs := six.map V.str) (fun i H1 => Same H H1 ∧ H1 t = some (.tup (six.map V.str)) ∧ H1 D = some (.lst (((six.take i).filter fun y => decide (y ∉ xs)).map V.str))) ?_ ?_ ?_ ?_
    · exact ⟨same_upd e1 hD, by rw [upd_ne hDt.symm]; exact upd_same, upd_same⟩
    · rintro i H1 _ ⟨_, h1, _⟩
      exact SqT.of h1
    · rintro i x H1 hx ⟨h1, h2, h3⟩
      rw [List.getElem?_map] at hx
      obtain ⟨y, hy, rfl⟩ := Option.map_eq_some_iff.mp hx
      refine ⟨rfl, _, rfl, _, rfl, p, _, rfl, .inl (h1.seq hp), rfl, all_flat xs, _, rfl, ?_⟩
      have et : six.take (i + 1) = six.take i ++ [y] := by rw [List.take_add_one, hy]; rfl
      show (if (!inV (V.str y) (xs.map V.str)) = true then _ else _)
      rw [inV_str]
      by_cases c : y ∈ xs
      · rw [decide_eq_true c]
        refine iteF ?_
        refine ⟨h1, h2, ?_⟩
        rw [et, List.filter_append, h3]
        simp [c]
      · rw [decide_eq_false c]
        refine iteT ?_
        refine ⟨_, rfl, _, h3, ?_, same_mut h1 hD0, by rw [upd_ne hDt.symm]; exact h2, ?_⟩
        · have := (List.length_filter_le (fun y => decide (y ∉ xs)) (six.take i))
          have h6 : (six.take i).length ≤ 6 := List.length_take_le' i six
          rw [List.length_map, sizeLine_eq]; omega
        · rw [upd_same, et, List.filter_append, List.map_append]
          simp [c]
    · rintro H1 ⟨h1, h2, h3⟩
      have hne : ∃ y r, (six.filter fun y => decide (y ∉ xs)) = y :: r := by
        cases q : six.filter fun y => decide (y ∉ xs) with
        | cons y r => exact ⟨y, r, rfl⟩
        | nil =>
          have hall : ∀ y ∈ six, y ∈ xs := fun y hy => by
            have := List.filter_eq_nil_iff.mp q y hy
            simpa using this
          have := pigeon (by decide +kernel : six.Nodup) hall
          have h7 : six.length = 6 := rfl
          omega
      obtain ⟨y, r, hy⟩ := hne
      have hm : y ∈ six ∧ y ∉ xs := by
        have : y ∈ six.filter fun y => decide (y ∉ xs) := by rw [hy]; exact List.mem_cons_self ..
        rw [List.mem_filter] at this
        exact ⟨this.1, by simpa using this.2⟩
      have h3' : H1 D = some (.lst ((y :: r).map V.str)) := by rw [← hy]; exact h3
      refine ⟨D, _, 0, .str y, rfl, rfl, SqL.of h3', atI_nat (j := 0) rfl, k y H1 ?_ hm.2 h1⟩
      have : ∀ z ∈ six, nameL (cps z) = true := by decide +kernel
      exact this y hm.1
end
end Fs
namespace Fs
open PySem PySem.Spec PyProof.Rows L2
section
variable {P : Program} {w : World} {K : PySem.W.Frag} {mg : Str → Option Value} {base : Heap}
theorem Stp.of_same {a : Addr} {H H' : Hp} (h : Pot H a) (e : Same H H') : Stp a H H' := by
  obtain ⟨p0, p1, p2, h1, r⟩ := h.ex
  refine ⟨⟨p0, p1, p2, e _ _ h1, r⟩, fun b o q => ?_⟩
  obtain ⟨hb, q1⟩ := hid_some q
  rw [hid_ne hb]; exact e _ _ q1
/-- so many different names -/
def spNames : Sp := fun vs H Q _ => ∃ (a : Addr) (n : Int), vs = [.ref a, .int n] ∧ Pot H a ∧ 0 ≤ n ∧ n ≤ 6 ∧
  ∀ (p : Addr) (xs : List Str) (H' : Hp), (xs.length : Int) = n → xs.Nodup → (∀ x ∈ xs, nameL (cps x) = true) → H p = none → H' p = some (.lst (xs.map V.str)) → Stp a H H' → Q (.ref p) H'
abbrev s_names : Stmt := top 25
theorem sc_names : FnScope ["pot", "many", "found", "turn", "name"] ["pot", "many"] (defScope s_names) := ⟨rfl, rfl, rfl, by decide +kernel, rfl, by decide +kernel, by decide +kernel⟩
theorem cal_names (T : Bs mg) (D : Df K mg "_law_names" s_names ["pot", "many"]) (C_name : Cal P w K mg base 3 "_law_name" spName) (C_free : Cal P w K mg base 1 "_law_free" (spFree K)) : Cal P w K mg base 4 "_law_names" spNames := by
  refine D.cal sc_names (fun vs H Q E h => ?_) (fun f cdv A outer s H vs Q E hr h => ?_)
  · obtain ⟨a, n, rfl, _⟩ := h
    rfl
  · obtain ⟨a, n, rfl, hp, hn0, hn6, k⟩ := h
    refine ⟨_, pss_cons (ps_set (i := 2) sc_names.nd rfl (.inl rfl) (pe_lst pa_nil))
      (pss_cons (ps_for PassesOwn.never rfl (pi_range1 (by rfl) T.z_range (pa_cons (pv 1) pa_nil)) (pg_name (i := 3) sc_names.nd rfl (Or.inl rfl))
        (pss_cons (ps_set (i := 4) sc_names.nd rfl (.inl rfl) (pc C_name hr (pa_cons (pv 0) pa_nil)))
        (pss_one (ps_expr (pe_bm PySem.F.plainAttrs_list PySem.F.slot_list_append PySem.F.type_list_append mt_append (pv 2) (pa_cons (pe_ifExp (pt_cmpR op_notIn_seq (pv 4) (pv 2) (by rfl)) (pv 4) (pc C_free hr (pa_cons (pv 2) pa_nil))) pa_nil))))))
      (pss_one (ps_ret (pv 2)))), ?_⟩
    refine ⟨by decide, fun q hq => ?_⟩
    have hqa := hp.ne hq
    have s0 : Stp a H (upd H q (.lst [])) := (Stp.refl hp).new hq
    refine ⟨_, rfl, _, rfl, by omega, by omega, for_range (fun i σ H1 => ∃ (xs : List Str) (v1 v2 : Option V), σ = [some (.ref a), some (.int n), some (.ref q), v1, v2] ∧ Stp a H H1 ∧ H1 q = some (.lst (xs.map V.str)) ∧ xs.length = i ∧ xs.Nodup ∧ ∀ x ∈ xs, nameL (cps x) = true) ?_ ?_ ?_⟩
    · exact ⟨[], none, none, rfl, s0, upd_same, rfl, List.nodup_nil, fun _ h => nomatch h⟩
    · rintro i σ H1 hi ⟨xs, v1, v2, rfl, st, hl, hlen, nd, good⟩
      have hi6 : i < 6 := by omega
      refine ⟨_, rfl, a, rfl, st.pot, fun x H2 hx st2 => ?_⟩
      have s2 := st.trans st2
      have hl2 := st2.get hl hqa
      have fin : ∀ (y : Str) (H3 : Hp), nameL (cps y) = true → y ∉ xs → Stp a H H3 → H3 q = some (.lst (xs.map V.str)) → ∃ (ys : List Str) (v1 v2 : Option V), [some (V.ref a), some (.int n), some (.ref q), some (.int (0 + (i : Int))), some (.str x)] = [some (.ref a), some (.int n), some (.ref q), v1, v2] ∧ Stp a H (upd H3 q (.lst (xs.map V.str ++ [.str y]))) ∧ (upd H3 q (.lst (xs.map V.str ++ [.str y]))) q = some (.lst (ys.map V.str)) ∧ ys.length = i + 1 ∧ ys.Nodup ∧ ∀ x ∈ ys, nameL (cps x) = true := by
        intro y H3 hy hny s3 hl3
        refine ⟨xs ++ [y], _, _, rfl, s3.mut hq hqa, by rw [upd_same, List.map_append]; rfl, by simp [hlen], ?_, ?_⟩
        · rw [List.nodup_append]
          refine ⟨nd, by simp, fun u hu v hv e => ?_⟩
          rw [List.mem_singleton.mp hv] at e
          exact hny (e ▸ hu)
        · intro z hz
          rcases List.mem_append.mp hz with h | h
          · exact good z h
          · rw [List.mem_singleton.mp h]; exact hy
      refine ⟨_, rfl, .inl ⟨rfl, _, SqL.of hl2⟩, _, rfl, _, rfl, q, _, rfl, .inl (SqL.of hl2), rfl, all_flat xs, _, rfl, ?_⟩
      show (if (!inV (V.str x) (xs.map V.str)) = true then _ else _)
      rw [inV_str]
      have hz : (xs.map V.str).length < sizeLine := by rw [List.length_map, sizeLine_eq]; omega
      by_cases c : x ∈ xs
      · rw [decide_eq_true c]
        refine iteF ?_
        refine ⟨_, rfl, q, xs, rfl, SqL.of hl2, by omega, fun y H3 hy hny e3 => ?_⟩
        have hl3 := e3 _ _ hl2
        exact ⟨q, _, _, rfl, rfl, hl3, hz, fin y H3 hy hny (s2.trans (Stp.of_same s2.pot e3)) hl3⟩
      · rw [decide_eq_false c]
        refine iteT ?_
        exact ⟨_, rfl, q, _, _, rfl, rfl, hl2, hz, fin x H2 hx c s2 hl2⟩
    · rintro σ H1 ⟨xs, v1, v2, rfl, st, hl, hlen, nd, good⟩
      exact ⟨_, rfl, k q xs H1 (by omega) nd good hq hl st⟩
end
end Fs
namespace Fs
open PySem PySem.Spec PyProof.Rows L2
def one1 (c : Nat) : Str := ⟨#[c]⟩
theorem lt_one (c d : Nat) : ltCps (cps (one1 c)) (cps (one1 d)) = decide (c < d) := by
  show ltCps [c] [d] = _
  unfold ltCps
  by_cases h : c < d
  · simp [h]
  · simp [h, ltCps]
theorem asc_of_sorted : ∀ (cs : List Nat) (c : Nat), risingS (one1 c) (cs.map one1) = true → (c :: cs).Nodup → ascL (c :: cs) = true
  | [], _, _, _ => rfl
  | d :: cs, c, h, nd => by
    have h' : (!ltCps (cps (one1 d)) (cps (one1 c)) && risingS (one1 d) (cs.map one1)) = true := h
    rw [lt_one, Bool.and_eq_true] at h'
    have nd' := List.nodup_cons.mp nd
    have ne : c ≠ d := fun e => nd'.1 (e ▸ List.mem_cons_self ..)
    have h1 : ¬ d < c := by simpa using h'.1
    show (decide (c < d) && ascL (d :: cs)) = true
    rw [asc_of_sorted cs d h'.2 nd'.2, decide_eq_true (by omega : c < d)]
    rfl
theorem asc_sorted {cs : List Nat} (h : PyProof.Rows.sortedS (cs.map one1) = true) (nd : cs.Nodup) : ascL cs = true := by
  cases cs with
  | nil => rfl
  | cons c cs => exact asc_of_sorted cs c h nd
/-- texts among values -/
def unStr : V → Str
  | .str x => x
  | _ => ""
theorem perm_strs {l : List V} {xs : List Str} (h : l.Perm (xs.map V.str)) : ∃ ys : List Str, l = ys.map V.str ∧ ys.Perm xs := by
  refine ⟨l.map unStr, ?_, ?_⟩
  · rw [List.map_map]
    conv => lhs; rw [← List.map_id l]
    refine List.map_congr_left fun v hv => ?_
    obtain ⟨x, _, rfl⟩ := List.mem_map.mp (h.mem_iff.mp hv)
    rfl
  · have := h.map unStr
    rw [List.map_map] at this
    have e : xs.map (unStr ∘ V.str) = xs := by
      conv => rhs; rw [← List.map_id xs]
      rfl
    rw [e] at this
    exact this
theorem perm_ones {ys : List Str} {cs : List Nat} (h : ys.Perm (cs.map one1)) : ∃ ds : List Nat, ys = ds.map one1 ∧ ds.Perm cs := by
  refine ⟨ys.map fun y => (cps y).headD 0, ?_, ?_⟩
  · rw [List.map_map]
    conv => lhs; rw [← List.map_id ys]
    refine List.map_congr_left fun v hv => ?_
    obtain ⟨c, _, rfl⟩ := List.mem_map.mp (h.mem_iff.mp hv)
    rfl
  · have := h.map fun y => (cps y).headD 0
    rw [List.map_map] at this
    have e : cs.map ((fun y => (cps y).headD 0) ∘ one1) = cs := by
      conv => rhs; rw [← List.map_id cs]
      rfl
    rw [e] at this
    exact this
theorem flat_ones : ∀ cs : List Nat, ((cs.map one1).map cps).flatten = cs
  | [] => rfl
  | c :: cs => by
    rw [List.map_cons, List.map_cons, List.flatten_cons, flat_ones cs]
    rfl
theorem len_ones (cs : List Nat) : ((cs.map one1).map (·.length)).sum = cs.length := by
  induction cs with
  | nil => rfl
  | cons c cs ih =>
    rw [List.map_cons, List.map_cons, List.sum_cons, ih, List.length_cons]
    show 1 + _ = _
    omega
theorem map_S1 (l : List Nat) : l.map S1 = (l.map one1).map V.str := by rw [List.map_map]; rfl
theorem cutV_to (xs : List V) (n : Int) (h : 0 ≤ n) : cutV xs none (some n) = xs.take n.toNat := by
  unfold cutV
  have e : n = ((n.toNat : Nat) : Int) := (Int.toNat_of_nonneg h).symm
  rw [e, HT.sIx_nat, HT.sIx_none, List.drop_zero, Nat.sub_zero]
  rw [show (((n.toNat : Nat) : Int)).toNat = n.toNat by omega]
  by_cases c : n.toNat ≤ xs.length
  · rw [Nat.min_eq_left c]
  · rw [Nat.min_eq_right (by omega), List.take_of_length_le (Nat.le_refl _), List.take_of_length_le (by omega)]
theorem cutV_from (xs : List V) (n : Int) (h : 0 ≤ n) : cutV xs (some n) none = xs.drop n.toNat := by
  unfold cutV
  have e : n = ((n.toNat : Nat) : Int) := (Int.toNat_of_nonneg h).symm
  rw [e, HT.sIx_nat, HT.sIx_none]
  rw [show (((n.toNat : Nat) : Int)).toNat = n.toNat by omega]
  by_cases c : n.toNat ≤ xs.length
  · rw [Nat.min_eq_left c, List.take_of_length_le (by rw [List.length_drop]; omega)]
  · rw [Nat.min_eq_right (by omega), List.drop_of_length_le (Nat.le_refl _), List.drop_of_length_le (by omega)]
    simp
section
variable {P : Program} {w : World} {K : PySem.W.Frag} {mg : Str → Option Value} {base : Heap}
/-- drawn signs -/
def spSigns : Sp := fun vs H Q _ => ∃ a : Addr, vs = [.ref a] ∧ Pot H a ∧ ∀ (x : Str) (H' : Hp), signsL (cps x) = true → Stp a H H' → Q (.str x) H'
abbrev s_signs : Stmt := top 26
theorem sc_signs : FnScope ["pot", "letters"] ["pot"] (defScope s_signs) := ⟨rfl, rfl, rfl, by decide +kernel, rfl, by decide +kernel, by decide +kernel⟩
theorem cal_signs (T : Bs mg) (D : Df K mg "_law_signs" s_signs ["pot"]) (C_dip : Cal P w K mg base 1 "_law_dip" spDip) (C_choose : Cal P w K mg base 2 "_law_choose" (spChoose K)) (C_shuffled : Cal P w K mg base 2 "_law_shuffled" (spShuf K)) : Cal P w K mg base 3 "_law_signs" spSigns := by
  refine D.cal sc_signs (fun vs H Q E h => ?_) (fun f cdv A outer s H vs Q E hr h => ?_)
  · obtain ⟨a, rfl, _⟩ := h
    rfl
  · obtain ⟨a, rfl, hp, k⟩ := h
    refine ⟨_, pss_cons (ps_set (i := 1) sc_signs.nd rfl (.inl rfl) (pc C_choose hr (pa_cons (pv 0) (pa_cons (pe_lst (pa_cons pe_str (pa_cons pe_str (pa_cons pe_str (pa_cons pe_str (pa_cons pe_str (pa_cons pe_str pa_nil))))))) pa_nil))))
      (pss_one (ps_ret (pe_join pe_str (pb cr_sortedS T.z_sorted (pa_cons (pe_slice sl_list (pc C_shuffled hr (pa_cons (pv 0) (pa_cons (pv 1) pa_nil))) po_none (po_some (pe_op op_add pe_int (pc C_dip hr (pa_cons (pv 0) (pa_cons pe_int pa_nil)))))) pa_nil))))), ?_⟩
    refine ⟨_, rfl, by decide, fun p1 hp1 => ?_⟩
    have np1 := hp.ne hp1
    refine ⟨a, _, _, rfl, hp.upd np1, Of3.newL np1, by simp, by simp, fun v1 H1 hv1 st1 => ?_⟩
    obtain ⟨z, rfl, hz1, hz2, hz3, hz4⟩ : ∃ z : Str, v1 = .str z ∧ 0 < (cps z).length ∧ z.length ≤ 26 ∧ lowL (cps z) = true ∧ (cps z).Nodup := by
      simp only [List.mem_cons, List.not_mem_nil, or_false] at hv1
      rcases hv1 with rfl | rfl | rfl | rfl | rfl | rfl <;> exact ⟨_, rfl, by decide +kernel, by decide +kernel, by decide +kernel, by decide +kernel⟩
    have s1 : Stp a H H1 := ((Stp.refl hp).new hp1).trans st1
    refine ⟨⟨_, rfl⟩, _, rfl, _, rfl, a, _, _, rfl, s1.pot, Of3.str (by omega), by rw [List.length_map, ← len_cps]; omega, fun q l' H2 perm hq hl st2 => ?_⟩
    have s2 := s1.trans st2
    refine ⟨_, rfl, a, 4, rfl, s2.pot, by decide, by decide, fun r H3 r0 r1 st3 => ?_⟩
    have s3 := s2.trans st3
    have hqa := s1.pot.ne hq
    have hl3 := st3.get hl hqa
    rw [map_S1] at perm
    obtain ⟨ys, rfl, py⟩ := perm_strs perm
    obtain ⟨ds, rfl, pd⟩ := perm_ones py
    refine ⟨_, _, rfl, rfl, _, rfl, q, _, rfl, SqL.of hl3, fun p4 hp4 => ?_⟩
    have s4 := s3.new (o := .lst (cutV ((ds.map one1).map V.str) none (some (1 + r)))) hp4
    have ecut : cutV ((ds.map one1).map V.str) none (some (1 + r)) = ((ds.take (1 + r).toNat).map one1).map V.str := by rw [cutV_to _ _ (by omega), List.map_take, List.map_take]
    have len_ds : ds.length = (cps z).length := pd.length_eq
    have hz2' : (cps z).length ≤ 26 := by rw [← len_cps]; exact hz2
    refine ⟨p4, (ds.take (1 + r).toNat).map one1, rfl, SqL.of (by rw [upd_same, ecut]), by rw [List.length_map, List.length_take]; omega, fun zs p5 pz srt hp5 => ?_⟩
    obtain ⟨es, rfl, pe⟩ := perm_ones pz
    refine ⟨_, _, es.map one1, rfl, rfl, .inl (SqL.of upd_same), by rw [len_ones]; have := pe.length_eq; rw [List.length_take] at this; show es.length + (es.map one1).length * 0 ≤ _; omega, ?_⟩
    refine k _ _ ?_ (s4.new hp5)
    rw [cps_join, flat_ones]
    have nd_ds : ds.Nodup := pd.nodup_iff.mpr hz4
    have nd_es : es.Nodup := pe.nodup_iff.mpr (nd_ds.sublist (List.take_sublist _ _))
    have low_es : lowL es = true := by
      refine List.all_eq_true.mpr fun c hc => ?_
      exact List.all_eq_true.mp hz3 c (pd.mem_iff.mp (List.mem_of_mem_take (pe.mem_iff.mp hc)))
    have elen : es.length = min (1 + r).toNat ds.length := by rw [pe.length_eq, List.length_take]
    unfold signsL
    simp only [Bool.and_eq_true, decide_eq_true_eq]
    exact ⟨⟨⟨by omega, by omega⟩, low_es⟩, asc_sorted srt nd_es⟩
end
end Fs
namespace Fs
open PySem PySem.Spec PyProof.Rows L2
/-! ### tuples never change -/
def Tle (H H' : Hp) : Prop := ∀ b xs, H b = some (.tup xs) → H' b = some (.tup xs)
theorem Tle.refl (H : Hp) : Tle H H := fun _ _ h => h
theorem Tle.trans {H H1 H2 : Hp} (x : Tle H H1) (y : Tle H1 H2) : Tle H H2 := fun b xs h => y b xs (x b xs h)
theorem Tle.new {H : Hp} {p : Addr} {o : HO} (hp : H p = none) : Tle H (upd H p o) := fun b xs h => by rw [upd_ne (ne_of_none h hp)]; exact h
theorem Tle.lst {H : Hp} {p : Addr} {ys : List V} {o : HO} (hp : H p = some (.lst ys)) : Tle H (upd H p o) := fun b xs h => by
  rw [upd_ne (ne_of h hp (by intro z; cases z))]; exact h
theorem Stp.tle {a : Addr} {H H' : Hp} (st : Stp a H H') (hp : Pot H a) : Tle H H' := fun b xs h => by
  obtain ⟨p0, p1, p2, e, _⟩ := hp.ex
  exact st.get h (ne_of h e (by intro z; cases z))
theorem Tle.of_same {H H' : Hp} (e : Same H H') : Tle H H' := fun b xs h => e b _ h
/-- a pair of texts; the sources or sinks of streams -/
def PairAt (H : Hp) (t : Addr) (p : Str × Str) : Prop := H t = some (.tup [.str p.1, .str p.2])
def PartsT (H : Hp) (t : Addr) (ps : List (Str × Str)) : Prop := ∃ as : List Addr, H t = some (.tup (as.map V.ref)) ∧ Paired (PairAt H) as ps
theorem pairs_le {H H' : Hp} (e : Tle H H') {as : List Addr} {ps : List (Str × Str)} (h : Paired (PairAt H) as ps) : Paired (PairAt H') as ps := L2.Paired.mapP h fun _ _ q => e _ _ q
theorem PartsT.le {H H' : Hp} {t : Addr} {ps : List (Str × Str)} (e : Tle H H') (h : PartsT H t ps) : PartsT H' t ps := by
  obtain ⟨as, h1, h2⟩ := h
  exact ⟨as, e _ _ h1, pairs_le e h2⟩
theorem paired_snoc {α β : Type} {F : α → β → Prop} : ∀ {l : List α} {m : List β} {x : α} {y : β}, Paired F l m → F x y → Paired F (l ++ [x]) (m ++ [y])
  | _, _, _, _, .nil, h => .cons h .nil
  | _, _, _, _, .cons r t, h => .cons r (paired_snoc t h)
theorem paired_take {α β : Type} {F : α → β → Prop} : ∀ {l : List α} {m : List β} (n : Nat), Paired F l m → Paired F (l.take n) (m.take n)
  | _, _, 0, _ => .nil
  | _, _, _ + 1, .nil => .nil
  | _, _, n + 1, .cons r t => .cons r (paired_take n t)
theorem paired_drop {α β : Type} {F : α → β → Prop} : ∀ {l : List α} {m : List β} (n : Nat), Paired F l m → Paired F (l.drop n) (m.drop n)
  | _, _, 0, h => h
  | _, _, _ + 1, .nil => .nil
  | _, _, n + 1, .cons r t => paired_drop n t
theorem paired_len {α β : Type} {F : α → β → Prop} : ∀ {l : List α} {m : List β}, Paired F l m → l.length = m.length
  | _, _, .nil => rfl
  | _, _, .cons _ t => congrArg (· + 1) (paired_len t)
structure Good (m : Nat) (ps qs : List (Str × Str)) : Prop where
  one : 1 ≤ ps.length
  le1 : ps.length ≤ m
  le2 : qs.length ≤ m
  nd : ((ps ++ qs).map (·.1)).Nodup
  ok : ∀ p ∈ ps ++ qs, nameL (cps p.1) = true ∧ signsL (cps p.2) = true
def rIntB : List V → Hp → VK → Prop := fun xs H Q => ∃ k, xs = [.bl k] ∧ Q (.int (if k then 1 else 0)) H
theorem call_intB {X : Cx} : CallR X (.type "int") rIntB := CallR.imp call_int1 fun xs H Q h => .inr h
section
variable {P : Program} {w : World} {K : PySem.W.Frag} {mg : Str → Option Value} {base : Heap}
/-- the parts of drawn streams -/
def spParts : Sp := fun vs H Q _ => ∃ (a : Addr) (m : Nat), vs = [.ref a, .int (m : Int)] ∧ Pot H a ∧ 1 ≤ m ∧ m ≤ 3 ∧
  ∀ (q t1 t2 : Addr) (ps qs : List (Str × Str)) (H' : Hp), Good m ps qs → H q = none → H' q = some (.lst [.ref t1, .ref t2]) → PartsT H' t1 ps → PartsT H' t2 qs → Stp a H H' → Q (.ref q) H'
abbrev s_parts : Stmt := top 27
theorem sc_parts : FnScope ["pot", "most", "many", "more", "pairs", "name"] ["pot", "most"] (defScope s_parts) := ⟨rfl, rfl, rfl, by decide +kernel, rfl, by decide +kernel, by decide +kernel⟩
theorem cal_parts (T : Bs mg) (D : Df K mg "_law_parts" s_parts ["pot", "most"]) (C_dip : Cal P w K mg base 1 "_law_dip" spDip) (C_names : Cal P w K mg base 4 "_law_names" spNames) (C_signs : Cal P w K mg base 3 "_law_signs" spSigns) : Cal P w K mg base 5 "_law_parts" spParts := by
  refine D.cal sc_parts (fun vs H Q E h => ?_) (fun f cdv A outer s H vs Q E hr h => ?_)
  · obtain ⟨a, m, rfl, _⟩ := h
    rfl
  · obtain ⟨a, m, rfl, hp, hm1, hm3, k⟩ := h
    refine ⟨_, pss_cons (ps_par (i := 2) (j := 3) rfl sc_parts.nd rfl rfl (by decide) rfl rfl (pa_cons (pe_op op_add pe_int (pc C_dip hr (pa_cons (pv 0) (pa_cons (pv 1) pa_nil)))) (pa_cons (pc C_dip hr (pa_cons (pv 0) (pa_cons (pe_op op_add (pv 1) pe_int) pa_nil))) pa_nil)) (by rfl))
      (pss_cons (ps_setLc (i := 4) (own := [("name", 5)]) (te := (tTup (tCons (tVar 5) (tCons (tCallS spSigns (fun _ => E0) (tCons (tVar 0) tNil)) tNil)))) rfl sc_parts.nd rfl rfl (sw_true rfl rfl rfl (by decide +kernel)) (pi_list (pc C_names hr (pa_cons (pv 0) (pa_cons (pe_op op_add (pv 2) (pv 3)) pa_nil)))) (blkOk_by (N := ["pot", "most", "many", "more", "pairs", "name"]) (sc := defScope s_parts) (by decide +kernel)) (fun _ _ _ _ _ => (pg_name (i := 5) sc_parts.nd rfl (Or.inl rfl))) (fun _ _ _ _ _ => pts_nil) (fun _ _ _ _ _ => (pe_tup (pa_cons (pv 5) (pa_cons (pc C_signs hr (pa_cons (pv 0) pa_nil)) pa_nil)))))
      (pss_one (ps_ret (pe_lst (pa_cons (pt call_tuple_of T.z_tuple (pa_cons (pe_slice sl_list (pv 4) po_none (po_some (pv 2))) pa_nil)) (pa_cons (pt call_tuple_of T.z_tuple (pa_cons (pe_slice sl_list (pv 4) (po_some (pv 2)) po_none) pa_nil)) pa_nil)))))), ?_⟩
    refine ⟨_, rfl, _, rfl, a, (m : Int), rfl, hp, by omega, by omega, fun r H1 r0 r1 st1 => ?_⟩
    refine ⟨_, _, rfl, rfl, _, rfl, _, rfl, _, _, rfl, rfl, a, (m : Int) + 1, rfl, st1.pot, by omega, by omega, fun r2 H2 r20 r21 st2 => ?_⟩
    have s2 := st1.trans st2
    refine ⟨_, _, rfl, ?_⟩
    refine ⟨_, rfl, _, rfl, _, rfl, _, _, rfl, rfl, a, _, rfl, s2.pot, by omega, by omega, fun nm xs H3 hlen nd good hnm hl st3 => ?_⟩
    have s3 := s2.trans st3
    have nma : nm ≠ a := s2.pot.ne hnm
    have hnm0 : H nm = none := s2.free hnm nma
    refine ⟨nm, rfl, ⟨_, SqL.of hl⟩, fun D hD => ?_⟩
    have hDa : D ≠ a := s3.pot.ne hD
    have hD0 : H D = none := s3.free hD hDa
    have hDn : D ≠ nm := (ne_of_none hl hD).symm
    refine lc_list (K := K) (a := nm) (xs := xs.map V.str) (fun i H4 => ∃ (as : List Addr) (ps : List (Str × Str)), Stp a H H4 ∧ H4 nm = some (.lst (xs.map V.str)) ∧ H4 D = some (.lst (as.map V.ref)) ∧ Paired (PairAt H4) as ps ∧
      ps.map (·.1) = xs.take i ∧ ∀ p ∈ ps, signsL (cps p.2) = true) ?_ ?_ ?_ ?_
    · exact ⟨[], [], s3.new hD, by rw [upd_ne hDn.symm]; exact hl, upd_same, .nil, rfl, fun _ h => nomatch h⟩
    · rintro i H4 _ ⟨_, _, _, h1, _⟩
      exact SqL.of h1
    · rintro i x H4 hx ⟨as, ps, st, hn, hd, pp, e, ok⟩
      rw [List.getElem?_map] at hx
      obtain ⟨y, hy, rfl⟩ := Option.map_eq_some_iff.mp hx
      have hi : i < xs.length := (List.getElem?_eq_some_iff.mp hy).1
      refine ⟨rfl, _, rfl, _, rfl, a, rfl, st.pot, fun z H5 hz st5 => ⟨by show 2 ≤ sizeLine; decide, fun t ht => ?_⟩⟩
      have hd5 := st5.get hd hDa
      have hn5 := st5.get hn nma
      have htD : t ≠ D := (ne_of_none hd5 ht).symm
      have htn : t ≠ nm := (ne_of_none hn5 ht).symm
      have s6 : Stp a H (upd H5 t (.tup [.str y, .str z])) := (st.trans st5).new ht
      have hd6 : upd H5 t (.tup [.str y, .str z]) D = some (.lst (as.map V.ref)) := by rw [upd_ne htD.symm]; exact hd5
      have el := paired_len pp
      have el2 : ps.length = i := by
        have := congrArg List.length e
        rw [List.length_map, List.length_take] at this
        omega
      refine ⟨_, hd6, by rw [List.length_map, sizeLine_eq]; omega, as ++ [t], ps ++ [(y, z)], s6.mut hD0 hDa, ?_, by rw [upd_same, List.map_append]; rfl, ?_, ?_, ?_⟩
      · rw [upd_ne hDn.symm, upd_ne htn.symm]; exact hn5
      · have le : Tle H4 (upd (upd H5 t (.tup [.str y, .str z])) D (.lst (as.map V.ref ++ [.ref t]))) := ((st5.tle st.pot).trans (Tle.new ht)).trans (Tle.lst hd6)
        refine paired_snoc (pairs_le le pp) ?_
        show upd (upd H5 t (.tup [.str y, .str z])) D _ t = _
        rw [upd_ne htD, upd_same]
      · rw [List.map_append, e, List.take_add_one, hy]; rfl
      · intro p hp'
        rcases List.mem_append.mp hp' with h | h
        · exact ok p h
        · rw [List.mem_singleton.mp h]; exact hz
    · rintro H4 ⟨as, ps, st, hn, hd, pp, e, ok⟩
      rw [List.length_map, List.take_length] at e
      have el := paired_len pp
      have el2 : ps.length = xs.length := by rw [← e, List.length_map]
      have hdd := SqL.of (K := K) hd
      refine ⟨_, rfl, _, rfl, _, rfl, D, _, rfl, hdd, fun p5 hp5 => ?_⟩
      have s5 := st.new (o := .lst (cutV (as.map V.ref) none (some (1 + r)))) hp5
      refine ⟨p5, _, rfl, .inl ⟨SqL.of upd_same, fun t1 ht1 => ?_⟩⟩
      have s6 := s5.new (o := .tup (cutV (as.map V.ref) none (some (1 + r)))) ht1
      have hd6 : upd (upd H4 p5 (.lst (cutV (as.map V.ref) none (some (1 + r))))) t1 (.tup (cutV (as.map V.ref) none (some (1 + r)))) D = some (.lst (as.map V.ref)) := by
        have n1 : D ≠ p5 := ne_of_none hd hp5
        have n2 : D ≠ t1 := ne_of_none (by rw [upd_ne n1]; exact hd) ht1
        rw [upd_ne n2, upd_ne n1]; exact hd
      refine ⟨_, rfl, _, rfl, _, rfl, D, _, rfl, SqL.of hd6, fun p7 hp7 => ?_⟩
      have s7 := s6.new (o := .lst (cutV (as.map V.ref) (some (1 + r)) none)) hp7
      refine ⟨p7, _, rfl, .inl ⟨SqL.of upd_same, fun t2 ht2 => ?_⟩⟩
      have s8 := s7.new (o := .tup (cutV (as.map V.ref) (some (1 + r)) none)) ht2
      refine ⟨by show 2 ≤ sizeLine; decide, fun q hq => ?_⟩
      have s9 := s8.new (o := .lst [.ref t1, .ref t2]) hq
      have hq0 : H q = none := s8.free hq (s8.pot.ne hq)
      have le5 : Tle H4 (upd H4 p5 (.lst (cutV (as.map V.ref) none (some (1 + r))))) := Tle.new hp5
      have le6 := le5.trans (Tle.new (o := .tup (cutV (as.map V.ref) none (some (1 + r)))) ht1)
      have le7 := le6.trans (Tle.new (o := .lst (cutV (as.map V.ref) (some (1 + r)) none)) hp7)
      have le8 := le7.trans (Tle.new (o := .tup (cutV (as.map V.ref) (some (1 + r)) none)) ht2)
      have le9 := le8.trans (Tle.new (o := .lst [.ref t1, .ref t2]) hq)
      have nn : ((1 + r).toNat : Int) = 1 + r := Int.toNat_of_nonneg (by omega)
      refine k q t1 t2 (ps.take (1 + r).toNat) (ps.drop (1 + r).toNat) _ ⟨?_, ?_, ?_, ?_, ?_⟩ hq0 upd_same ⟨as.take (1 + r).toNat, ?_, ?_⟩ ⟨as.drop (1 + r).toNat, ?_, ?_⟩ s9
      · rw [List.length_take]; omega
      · rw [List.length_take]; omega
      · rw [List.length_drop]; omega
      · rw [List.take_append_drop, e]; exact nd
      · rw [List.take_append_drop]
        intro p hp'
        refine ⟨good p.1 ?_, ok p hp'⟩
        rw [← e]; exact List.mem_map_of_mem hp'
      · have n1 : t1 ≠ p7 := ne_of_none (by rw [upd_same]) hp7
        have n2 : t1 ≠ t2 := ne_of_none (by rw [upd_ne n1, upd_same]) ht2
        have n3 : t1 ≠ q := ne_of_none (by rw [upd_ne n2, upd_ne n1, upd_same]) hq
        rw [upd_ne n3, upd_ne n2, upd_ne n1, upd_same, cutV_to _ _ (by omega), List.map_take]
      · exact pairs_le le9 (paired_take _ pp)
      · have n3 : t2 ≠ q := ne_of_none upd_same hq
        rw [upd_ne n3, upd_same, cutV_from _ _ (by omega), List.map_drop]
      · exact pairs_le le9 (paired_drop _ pp)
/-- the pot of a script's cell -/
def spFilled (K : PySem.W.Frag) : Sp := fun vs H Q _ => ∃ (p : Addr) (ns : List Int) (i : Int), vs = [.ref p, .int i] ∧ SqL K H p (ns.map V.int) ∧ 0 ≤ i ∧ i < 1000 ∧ ∀ (a : Addr) (H' : Hp), H a = none → Pot H' a → Same H H' → Q (.ref a) H'
abbrev s_filled : Stmt := top 19
theorem sc_filled : FnScope ["script", "at", "cell", "whole", "mixed"] ["script", "at"] (defScope s_filled) := ⟨rfl, rfl, rfl, by decide +kernel, rfl, by decide +kernel, by decide +kernel⟩
theorem cal_filled (T : Bs mg) (D : Df K mg "_law_filled" s_filled ["script", "at"]) : Cal P w K mg base 1 "_law_filled" (spFilled K) := by
  refine D.cal sc_filled (fun vs H Q E h => ?_) (fun f cdv A outer s H vs Q E hr h => ?_)
  · obtain ⟨p, ns, i, rfl, _⟩ := h
    rfl
  · obtain ⟨p, ns, i, rfl, hp, hi0, hi1, k⟩ := h
    refine ⟨_, C8.pss_cut (ps_set (i := 2) sc_filled.nd rfl (.inl rfl) (pe_ifExp (pt_cmpR op_lt (pv 1) (pb call_len3 T.z_len (pa_cons (pv 0) pa_nil)) (nomark _)) (pe_ix ix_list (pv 0) (pv 1) (fun _ _ => rfl)) (pe_op op_add (pe_op op_mulR pe_int (pv 1)) pe_int)))
      (pss_cons (ps_set (i := 3) sc_filled.nd rfl (.inl rfl) (pe_op op_modR (pt call_intI T.z_int (pa_cons (pb call_abs T.z_abs (pa_cons (pv 2) pa_nil)) pa_nil)) (pe_op op_powR (pe_op op_powR pe_int pe_int) pe_int)))
      (pss_cons (ps_set (i := 4) sc_filled.nd rfl (.inl rfl) (pe_op op_modR (pt call_intI T.z_int (pa_cons (pe_op op_add (pe_op op_add (pe_op op_add (pv 3) (pe_op op_mulR pe_int (pv 1))) (pe_op op_mulR pe_int (pt call_intB T.z_int (pa_cons (pe_cmpR op_lt (pv 2) pe_int (nomark _)) pa_nil)))) pe_int) pa_nil)) pe_int))
      (pss_one (ps_ret (pe_lst (pa_cons (pb (call_max2 rfl) T.z_max (pa_cons pe_int (pa_cons (pe_op op_sub (pv 3) (pe_op op_powR pe_int pe_int)) pa_nil))) (pa_cons (pv 4) (pa_cons pe_int pa_nil)))))))), ?_⟩
    refine ⟨fun σ' H' => H' = H ∧ ∃ c : Int, σ' = [some (V.ref p), some (.int i), some (.int c), none, none], ?_, ?_⟩
    · refine ⟨_, rfl, _, rfl, _, _, rfl, .inl ⟨p, rfl, .inl hp⟩, _, _, rfl, rfl, _, rfl, ?_⟩
      refine ite2 (fun c => ?_) (fun c => ?_)
      · have c : i < ((ns.map V.int).length : Int) := of_decide_eq_true c
        rw [List.length_map] at c
        have hi : i.toNat < ns.length := by omega
        refine ⟨_, rfl, _, rfl, p, _, i, .int ns[i.toNat], rfl, rfl, hp, atI_of hi0 ?_, rfl, _, rfl⟩
        rw [List.getElem?_map, List.getElem?_eq_getElem hi]; rfl
      · exact ⟨_, rfl, _, _, rfl, rfl, .inl ⟨by decide, by decide⟩, fun r _ => ⟨_, _, rfl, rfl, rfl, _, rfl⟩⟩
    · rintro σ' H' ⟨rfl, c, rfl⟩
      refine ⟨_, rfl, _, rfl, _, rfl, ?_⟩
      refine ⟨_, _, rfl, rfl, by decide +kernel, _, _, rfl, rfl, by decide +kernel, _, _, rfl, rfl, by decide +kernel, fun wh w0 _ => ?_⟩
      refine ⟨_, rfl, _, rfl, _, _, rfl, rfl, .inl ⟨by decide, by decide⟩, fun r1 _ => ⟨_, _, rfl, rfl, ?_⟩⟩
      refine ⟨_, rfl, _, _, rfl, rfl, _, rfl, ?_⟩
      refine ⟨_, _, rfl, rfl, .inr ⟨?_, ?_⟩, fun r2 _ => ?_⟩
      · split <;> decide
      · split <;> decide
      refine ⟨_, _, rfl, rfl, _, _, rfl, rfl, _, rfl, _, _, rfl, rfl, by decide, fun mx m0 m1 => ?_⟩
      refine ⟨_, rfl, _, _, rfl, rfl, by decide +kernel, _, _, rfl, rfl, _, _, rfl, _, rfl, by show 3 ≤ sizeLine; decide, fun a ha => ?_⟩
      refine k a _ ha ⟨_, _, _, upd_same, ?_, m0, m1, by omega⟩ (same_upd (Same.refl _) ha)
      split <;> omega
end
end Fs
namespace Fs
open PySem PySem.Spec PyProof.Rows L2
/-! ### for a, b in zip(text, text) -/
def ItzS (x y : Str) : It :=
  ⟨fun i _ => i < x.cps.size ∧ i < y.cps.size, fun i H v H' => ∃ T c d, v = .ref T ∧ H T = none ∧ H' = upd H T (.tup [S1 c, S1 d]) ∧ x.cps[i]? = some c ∧ y.cps[i]? = some d,
    fun i _ => i ≤ x.cps.size ∧ i ≤ y.cps.size ∧ (i = x.cps.size ∨ i = y.cps.size)⟩
theorem turn_zipS {P : Program} {w : World} {K : PySem.W.Frag} {elts : List Expr} {kk : Nat} {tpos : Pos} {x y : Str} {t u : Tok} {z TI TO i1 i2 : Addr} (S : ZipSep2 z TI TO i1 i2 [i1] [i2]) :
    Turn P w K (.Tuple elts kk tpos) (ItzS x y) [z, TI, TO, i1, i2] z
      (fun i h => IsZip h z TI TO .none ∧ IsTupOf2 h TI (.ref i1) (.ref i2) ∧ (∃ a b, IsTupOf2 h TO a b) ∧ h.IsStrIter i1 (strIterType x) x t i ∧ h.IsStrIter i2 (strIterType y) y u i) := by
  constructor
  case mem => simp
  case obj =>
    rintro i h ⟨h1, h2, ⟨a, b, h3⟩, ⟨o1, e1, _, d1⟩, ⟨o2, e2, _, d2⟩⟩ c hc
    simp only [List.mem_cons, List.not_mem_nil, or_false] at hc
    rcases hc with rfl | rfl | rfl | rfl | rfl
    · exact ⟨_, h1, fun v q => by cases q⟩
    · exact ⟨_, h2, fun v q => by cases q⟩
    · exact ⟨_, h3, fun v q => by cases q⟩
    · exact ⟨_, e1, fun v q => by rw [d1] at q; cases q⟩
    · exact ⟨_, e2, fun v q => by rw [d2] at q; cases q⟩
  case keep =>
    rintro i h h' ⟨h1, h2, ⟨a, b, h3⟩, ⟨o1, e1, r1⟩, ⟨o2, e2, r2⟩⟩ k
    exact ⟨k z (by simp) _ h1, k TI (by simp) _ h2, ⟨a, b, k TO (by simp) _ h3⟩, ⟨o1, k i1 (by simp) _ e1, r1⟩, ⟨o2, k i2 (by simp) _ e2, r2⟩⟩
  case item =>
    rintro X rfl rfl rfl hc i pins s σ H E I hf ⟨h1, h2, ⟨a, b, h3⟩, h4, h5⟩ ⟨hx, hy⟩
    have hh := I.ok.hd hc
    refine wpAny_pyNext_zipD2_item S (.text (A := X.A.in1) hh i1 x t) (.text (A := X.A.in1) hh i2 y u) h1 h2 h3 h4 h5 hx hy ?_
    rintro x1 x2 h' tk ⟨c, t1, hc1, rfl⟩ ⟨d, t2, hd1, rfl⟩ z1 g3 g4 g5 gT gsz kp
    refine ⟨_, rfl, wpAny_letOwnedTupleGo_zip (s := { s with heap := h', toks := tk }) z1 fun h'' z2 sb => ?_⟩
    have lz : z < s.heap.objs.size := Heap.lt_size h1
    have gT2 : h''.get? s.heap.objs.size = some { cls := .type "tuple", data := .seq #[.str ⟨#[c]⟩ t1, .str ⟨#[d]⟩ t2] } := (sb.2 _ (Nat.ne_of_gt lz)).trans gT
    have new : ObjOk X.prog X.w (upd H s.heap.objs.size (.tup [S1 c, S1 d])) h'' s.heap.objs.size (.tup [S1 c, S1 d]) :=
      ⟨by show 2 ≤ sizeLine; decide, [_, _], .cons ⟨t1, rfl⟩ (.cons ⟨t2, rfl⟩ .nil), ⟨_, gT2, rfl, _, rfl⟩⟩
    have I2 : Inv X pins σ (upd H s.heap.objs.size (.tup [S1 c, S1 d])) { s with heap := h'', toks := tk } := by
      refine I.turnedNew (ch := [z, TI, TO, i1, i2]) (fun b o hb q => ?_) hf (Nat.le_refl _) new
      simp only [List.mem_cons, List.not_mem_nil, or_false, not_or] at hb
      exact (sb.2 b hb.1).trans (kp b o hb.1 hb.2.2.1 hb.2.2.2.1 hb.2.2.2.2 q)
    have n1 : i1 ≠ z := fun e => S.zf1 (by rw [← e]; exact S.mem1)
    have n2 : i2 ≠ z := fun e => S.zf2 (by rw [← e]; exact S.mem2)
    refine ⟨.ref s.heap.objs.size, _, I2, rfl, ⟨_, c, d, rfl, I.hok.fresh (Nat.le_refl _), rfl, hc1, hd1⟩, ⟨z2, ?_, ⟨.str ⟨#[c]⟩ t1, .str ⟨#[d]⟩ t2, ?_⟩, ?_, ?_⟩, fun b hb => ?_⟩
    · have m1 : TI ≠ TO := S.TITO
      exact (sb.2 _ S.TIz).trans (kp _ _ S.TIz m1 S.TIi1 S.TIi2 h2)
    · exact (sb.2 _ S.TOz).trans g3
    · obtain ⟨o, e, r⟩ := g4
      exact ⟨o, (sb.2 _ n1).trans e, r⟩
    · obtain ⟨o, e, r⟩ := g5
      exact ⟨o, (sb.2 _ n2).trans e, r⟩
    · have hlt : b < s.heap.objs.size := by
        simp only [List.mem_cons, List.not_mem_nil, or_false] at hb
        rcases hb with rfl | rfl | rfl | rfl | rfl
        · exact lz
        · exact Heap.lt_size h2
        · exact Heap.lt_size h3
        · obtain ⟨_, e, _⟩ := h4; exact Heap.lt_size e
        · obtain ⟨_, e, _⟩ := h5; exact Heap.lt_size e
      rw [upd_ne (Nat.ne_of_lt hlt)]
      exact (hf b hb).1
  case done =>
    rintro X rfl rfl rfl hc i pins s σ H E I hf ⟨h1, h2, ⟨a, b, h3⟩, h4, h5⟩ ⟨l1, l2, l3⟩
    have hh := I.ok.hd hc
    refine wpAny_pyNext_zipD2_end S (.text (A := X.A.in1) hh i1 x t) (.text (A := X.A.in1) hh i2 y u) h1 h2 h3 h4 h5 l1 l2 l3 fun h' tk kp => ⟨rfl, ?_⟩
    refine I.turnedL (ch := [z, TI, TO, i1, i2]) (fun b o hb q => ?_) hf
    simp only [List.mem_cons, List.not_mem_nil, or_false, not_or] at hb
    exact kp b o hb.1 hb.2.2.1 hb.2.2.2.1 hb.2.2.2.2 q
  case self =>
    rintro A i s Q E ⟨h1, _⟩ q
    exact wpAny_pyIter_zip h1 q
def iZipS (ta : TA) : TI := fun σ H R => ta σ H fun vs H1 => ∃ x y : Str, vs = [.str x, .str y] ∧ R (ItzS x y) H1
theorem pi_zipS {X : Cx} {e e2 : Expr} {ta : TA} {p pos tpos : Pos} {elts : List Expr} {kk : Nat} (hm : X.mg "zip" = none) (ha : PA X [e, e2] ta) (hg : Gl X "zip" := by rfl)
    (hs : starEach [e, e2] X.env = (false, eval e X.env) :: starEach [e2] X.env := by rfl) (hpl : (backTo pos (starEach [e2] X.env)).any (·.1) = false := by rfl) :
    PI X (.Tuple elts kk tpos) (.Call (.Name "zip" p) [e, e2] [] pos) (iZipS ta) := by
  constructor
  intro pins s σ H R I h
  refine Call_ (ld_blt I hg hm PyProof.Rows.boot_zip (PyProof.Rows.callWith_type1 (thn (ha.run pos pins s σ H _ I h) ?_) hs hpl))
  rintro us s1 ⟨vs, H1, I1, rel, x, y, rfl, q⟩
  obtain ⟨u1, u2, rfl, ⟨t, rfl⟩, ⟨u, rfl⟩⟩ := vals2 rel
  refine zip_begins2 (begins_text x t) (begins_text y u) trivial trivial fun h' z1 z2 z3 z4 z5 zs kp => wpAny_pyIter_zip z1 ?_
  have I2 : Inv X pins σ H1 { s1 with heap := h' } := I1.kept (t' := s1.toks) kp
  refine ⟨s1.heap.objs.size + 4, [s1.heap.objs.size + 4, s1.heap.objs.size + 2, s1.heap.objs.size + 3, s1.heap.objs.size, s1.heap.objs.size + 1], _, _, H1, rfl, I2,
    turn_zipS (x := x) (y := y) (t := t) (u := u) (zip_sep2 (fp1 := []) (fp2 := []) (fun _ c => nomatch c) (fun _ c => nomatch c)), ⟨z1, z2, ⟨_, _, z3⟩, ⟨_, z4, rfl, rfl⟩, ⟨_, z5, rfl, rfl⟩⟩, fun b hb => ?_, q⟩
  have hle : s1.heap.objs.size ≤ b := by
    simp only [List.mem_cons, List.not_mem_nil, or_false] at hb
    rcases hb with rfl | rfl | rfl | rfl | rfl
    · exact Nat.le_add_right _ _
    · exact Nat.le_add_right _ _
    · exact Nat.le_add_right _ _
    · exact Nat.le_refl _
    · exact Nat.le_add_right _ _
  exact I1.fpOk hle (I1.hok.fresh hle)
theorem walk_zipS {x y : Str} {n : Nat} (hn : n = min x.cps.size y.cps.size) : Walk (ItzS x y) n (fun _ => True) (fun i H v H' => ∃ T c d, v = .ref T ∧ H T = none ∧ H' = upd H T (.tup [S1 c, S1 d]) ∧ x.cps[i]? = some c ∧ y.cps[i]? = some d) := by
  subst hn
  refine ⟨fun i _ hi _ => ?_, fun _ _ => ?_, fun _ _ _ _ _ _ h => h⟩
  · exact ⟨by omega, by omega⟩
  · exact ⟨by omega, by omega, by omega⟩
end Fs
namespace Fs
open PySem PySem.Spec PyProof.Rows L2
/-! ### set(list of texts), and how many there are -/
def ddS (acc : List Str) (x : Str) : List Str := if x ∈ acc then acc else acc ++ [x]
def distinct (xs : List Str) : List Str := xs.foldl ddS []
theorem dd_mem {acc : List Str} {x y : Str} : y ∈ ddS acc x ↔ y ∈ acc ∨ y = x := by
  unfold ddS
  by_cases h : x ∈ acc
  · rw [if_pos h]
    exact ⟨.inl, fun q => q.elim id fun e => e ▸ h⟩
  · rw [if_neg h, List.mem_append, List.mem_singleton]
theorem dd_nodup {acc : List Str} {x : Str} (h : acc.Nodup) : (ddS acc x).Nodup := by
  unfold ddS
  by_cases c : x ∈ acc
  · rw [if_pos c]; exact h
  · rw [if_neg c, List.nodup_append]
    exact ⟨h, by simp, fun u hu v hv e => c (by rw [← List.mem_singleton.mp hv, ← e]; exact hu)⟩
theorem dd_len (acc : List Str) (x : Str) : (ddS acc x).length ≤ acc.length + 1 := by
  unfold ddS
  split
  · omega
  · rw [List.length_append, List.length_singleton]
    exact Nat.le_refl _
theorem distinct_snoc (xs : List Str) (x : Str) : distinct (xs ++ [x]) = ddS (distinct xs) x := by
  unfold distinct
  rw [List.foldl_append]; rfl
theorem distinct_len (xs : List Str) : (distinct xs).length ≤ xs.length := by
  have : ∀ (ys acc : List Str), (ys.foldl ddS acc).length ≤ acc.length + ys.length := by
    intro ys
    induction ys with
    | nil => intro acc; exact Nat.le_refl _
    | cons y ys ih =>
      intro acc
      have h1 := ih (ddS acc y)
      have h2 := dd_len acc y
      rw [List.foldl_cons, List.length_cons]
      omega
  have := this xs []
  rw [List.length_nil, Nat.zero_add] at this
  exact this
theorem distinct_full : ∀ (ys acc : List Str), acc.Nodup → ((ys.foldl ddS acc).length = acc.length + ys.length ↔ (acc ++ ys).Nodup)
  | [], acc, h => by simp [h]
  | y :: ys, acc, h => by
    rw [List.foldl_cons]
    have ih := distinct_full ys (ddS acc y) (dd_nodup h)
    by_cases c : y ∈ acc
    · have hy : ddS acc y = acc := if_pos c
      rw [hy] at ih ⊢
      constructor
      · intro e
        have hle : (ys.foldl ddS acc).length ≤ acc.length + ys.length := by
          have : ∀ (zs a : List Str), (zs.foldl ddS a).length ≤ a.length + zs.length := by
            intro zs
            induction zs with
            | nil => intro a; exact Nat.le_refl _
            | cons z zs ih2 =>
              intro a
              have h1 := ih2 (ddS a z)
              have h2 := dd_len a z
              rw [List.foldl_cons, List.length_cons]
              omega
          exact this ys acc
        rw [List.length_cons] at e
        omega
      · intro nd
        rw [List.nodup_append] at nd
        exact (nd.2.2 y c y (List.mem_cons_self ..) rfl).elim
    · have hy : ddS acc y = acc ++ [y] := if_neg c
      rw [hy] at ih ⊢
      rw [List.length_append, List.length_singleton, List.append_assoc] at ih
      rw [List.length_cons]
      rw [show acc.length + (ys.length + 1) = acc.length + 1 + ys.length by omega]
      exact ih
theorem distinct_iff (xs : List Str) : (distinct xs).length = xs.length ↔ xs.Nodup := by
  have h := distinct_full xs [] List.nodup_nil
  rw [List.length_nil, Nat.zero_add, List.nil_append] at h
  exact h
def inS (xs : List Str) : Str → Bool := fun y => decide (y ∈ xs)
section
variable {prog : Program} {w : World} {A : Around} {R : Result → Shared → Prop} {I : Addr} {fp wr : List Addr} {G : Array GenState → Array GenState → Prop} {n : Nat} {P : Nat → Value → Prop} {St : Nat → Shared → Prop}
theorem fill_set (W : WalksS prog w A.in1 I fp wr G n P St) (a : Addr) (off : a ∉ fp) (xs : List Str) (len : xs.length = n) (small : n + 1 < scanBound) (val : ∀ i v, P i v → ∃ t, v = .str (xs.getD i Str.empty) t) :
    ∀ (more i : Nat) (s : Shared), n - i = more → i ≤ n → St i s → s.heap.SetOf (strKind prog w) a (inS (distinct (xs.take i))) (distinct (xs.take i)).length →
      (∀ s', Moved (a :: wr) G s s' → s'.heap.SetOf (strKind prog w) a (inS (distinct xs)) (distinct xs).length → R (.ok (.ret .none)) s') → codeAny (model prog w) A (.builtin "set.update.loop" ⟨[.ref a, .ref I], []⟩) R s := by
  have off2 : a ∉ wr := fun c => off (W.sub _ c)
  have sub2 : ∀ b ∈ wr, b ∈ a :: wr := fun b c => List.mem_cons_of_mem _ c
  intro more
  induction more with
  | zero =>
    intro i s e1 e2 st set fin
    obtain rfl : i = n := by omega
    apply codeAny_builtin PyProof.Rows.F.entry_set_update_loop
    rw [Around.under_plainId PyProof.Rows.F.plain_set_update_loop _]
    refine wpAny_bind (W.done s _ _ st ?_)
    intro s' mv
    refine wpAny_pure (fin s' (mv.mono sub2) ?_)
    rw [← len, List.take_length] at set
    obtain ⟨o, es, ep, tb, g, r⟩ := set
    exact ⟨o, es, ep, tb, mv.heap a _ off2 g, r⟩
  | succ more ih =>
    intro i s e1 e2 st set fin
    have lt : i < n := by omega
    apply codeAny_builtin PyProof.Rows.F.entry_set_update_loop
    rw [Around.under_plainId PyProof.Rows.F.plain_set_update_loop _]
    refine wpAny_bind (W.item i s _ _ lt st ?_)
    intro v s' pv st' mv
    rcases val i v pv with ⟨t, rfl⟩
    have hx : xs[i]? = some (xs.getD i Str.empty) := by rw [List.getD_eq_getElem?_getD, List.getElem?_eq_getElem (by omega)]; rfl
    generalize xs.getD i Str.empty = x at hx
    have set' : s'.heap.SetOf (strKind prog w) a (inS (distinct (xs.take i))) (distinct (xs.take i)).length := by
      obtain ⟨o, es, ep, tb, g, r⟩ := set
      exact ⟨o, es, ep, tb, mv.heap a _ off2 g, r⟩
    have room : (distinct (xs.take i)).length + 1 < scanBound := by
      have c1 := distinct_len (xs.take i)
      rw [List.length_take] at c1
      omega
    have et : xs.take (i + 1) = xs.take i ++ [x] := by rw [List.take_add_one, hx]; rfl
    refine wpAny_bind (wpAny_holding ?_)
    unfold setAdd
    refine wpAny_holding (wpAny_bind ((strKind prog w).pyHash (k := x) (strKind_is _ _ _ _) ?_))
    refine wpAny_setAddHashed_of (knd := strKind prog w) (s := { s' with toks := s'.toks + 1 }) (strKind_is _ _ _ _) rfl set' room ?_
    intro h' same set2
    have set3 : h'.SetOf (strKind prog w) a (inS (distinct (xs.take (i + 1)))) (distinct (xs.take (i + 1))).length := by
      rw [et, distinct_snoc]
      refine PyProof.Rows.SetOf_congr set2 (fun k => ?_) ?_
      · unfold inS
        by_cases c1 : k ∈ distinct (xs.take i)
        · simp [c1, dd_mem]
        · by_cases c2 : k = x
          · simp [c1, c2, dd_mem]
          · simp [c1, c2, dd_mem]
      · unfold inS ddS
        by_cases c : x ∈ distinct (xs.take i)
        · simp [c]
        · simp [c]
    refine wpAny_pure ⟨plainId_quiet PyProof.Rows.F.plain_set_update_loop _, ih (i + 1) _ (by omega) lt (W.frame _ s' _ _ st' (Nat.le_succ _) ?_) set3 ?_⟩
    · intro b hb o g
      rw [same.2 b (fun e => off (e ▸ hb))]; exact g
    · intro s2 mv2 set4
      refine fin s2 (Moved.trans W.gtrans ((mv.mono sub2).then_heap (Nat.le_succ _) ?_) mv2) set4
      intro b o hb g
      rw [same.2 b (fun e => hb (by rw [e]; exact List.mem_cons_self ..))]; exact g
end
abbrev bare (led : Bool) : Obj := { cls := .type "set", dict := none, data := .set #[] 0 (.fresh 0 0 led) }
section
variable {prog : Program} {w : World} {A : Around} {E : Value → Shared → Prop} {s : Shared}
theorem make_set {l : Addr} {its : Array Value} {xs : List Str} {Q : Value → Shared → Prop} (hh : A.handled = none) (isl : s.heap.IsList l its) (isx : StrsAre its.toList xs) (small : xs.length + 1 < scanBound)
    (fin : ∀ (h' : Heap) (tk : Nat), h'.SetOf (strKind prog w) s.heap.objs.size (inS (distinct xs)) (distinct xs).length → (∀ b o, b < s.heap.objs.size → s.heap.get? b = some o → h'.get? b = some o) → Q (.ref s.heap.objs.size) { s with heap := h', toks := tk }) :
    wpAny (model prog w) A (call (.type "set") [.ref l]) Q E s := by
  obtain ⟨c, tl, mro⟩ := PySem.F.called_set.mro
  have m1 := PySem.F.called_set.made
  have m2 := PySem.F.called_set.sub
  apply wpAny_call
  apply codeAny_of_tree
  show wpAny _ _ (callAny (.type "set") _) _ _ _
  refine wpAny_pure (And.intro (Code.quiet_builtin _ (by decide +kernel)) (codeAny_builtin PySem.F.entry_type_call ?_))
  rw [Around.under_plain (weight_type_call_type "set" [.ref l] []) rfl]
  have m3 := PySem.F.called_set.notType
  have m4 := PySem.F.called_set.canCreate
  have m5 := PySem.F.typeCall_set_1 (.ref l)
  repeat (any_goals (first | assumption | wp_step))
  refine codeAny_mono (code_set_new_1 (.ref l) (E := E) (Q₁ := fun v s1 => ∃ led : Bool, v = .ref s.heap.objs.size ∧ s1 = { s with heap := s.heap.push (bare led) }) fun led => ⟨led, rfl, rfl⟩) ?_
  rintro (err | fl) s1 got
  · exact got
  cases fl
  case next => exact got.elim
  case brk => exact got.elim
  case cont => exact got.elim
  case ret v =>
  obtain ⟨led, rfl, rfl⟩ := got
  have at0 : (s.heap.push (bare led)).get? s.heap.objs.size = some (bare led) := Heap.get?_push_size _ rfl
  have ty0 : Shared.TypeIs { s with heap := s.heap.push (bare led) } (.ref s.heap.objs.size) "set" := ⟨_, at0, rfl⟩
  have b1 := PySem.F.called_set.init.lookup
  have b2 := PySem.F.called_set.init.bind (.ref s.heap.objs.size)
  repeat (any_goals (first | assumption | wp_step))
  refine codeAny_mono (codeAny_call_builtin (R := wants (fun r s2 => r = .none ∧ ∃ h' tk, s2 = { s with heap := h', toks := tk } ∧ h'.SetOf (strKind prog w) s.heap.objs.size (inS (distinct xs)) (distinct xs).length ∧
    (∀ b o, b < s.heap.objs.size → s.heap.get? b = some o → h'.get? b = some o)) E) PySem.F.called_set.init.plain PySem.F.entry_set_init (check_set_init_1 ty0 ?_)) ?_
  · obtain ⟨⟨oc, od, dt, sl⟩, g, e1, nl, e2⟩ := isl
    simp only at e1 e2
    subst e1 e2
    have g2 : (s.heap.push (bare led)).get? l = some { cls := .type "list", dict := od, data := .seq its nl, slots := sl } := Heap.get?_push_of_some _ g
    have u1 := PySem.F.sub_list_set
    have u2 := PySem.F.sub_list_frozenset
    have u3 : (Value.type "list" == Value.type "dict") = false := by decide
    have isl2 : (s.heap.push (bare led)).IsList l its := ⟨_, g2, rfl, nl, rfl⟩
    unfold Builtin.«set.__init__» noKeywords Builtin.Frozenset.updateFrom
    generalize e3 : pyIter = PI
    wp_walk
    subst e3
    refine wpAny_pyIter_list isl2 (wpAny_bind (wpAny_runValue ?_))
    have ltl : l < s.heap.objs.size := Heap.lt_size g
    have hh3 : A.in1.in1.in1.handled = none := by simp [hh]
    have sz1 : (s.heap.push (bare led)).objs.size = s.heap.objs.size + 1 := Heap.size_push ..
    have ne1 : l ≠ (s.heap.push (bare led)).objs.size := by rw [sz1]; exact Nat.ne_of_lt (Nat.lt_succ_of_lt ltl)
    have ne2 : s.heap.objs.size ∉ [(s.heap.push (bare led)).objs.size, l] := by
      rw [sz1]
      intro q
      simp only [List.mem_cons, List.not_mem_nil, or_false] at q
      rcases q with q | q
      · exact absurd q (Nat.ne_of_lt (Nat.lt_succ_self _))
      · exact absurd q (Nat.ne_of_gt ltl)
    have len : xs.length = its.size := by rw [← StrsAre.len_eq isx, Array.length_toList]
    have val : ∀ (i : Nat) (v : Value), its[i]? = some v → ∃ t, v = .str (xs.getD i Str.empty) t := by
      intro i v hv
      exact SS.strs_at isx i v (by rw [Array.getElem?_toList]; exact hv)
    refine fill_set ((Walks.list hh3 _ l ne1 its).toS) s.heap.objs.size ne2 xs len (by rw [← len]; exact small) val (its.size - 0) 0 _ (by omega) (Nat.zero_le _) ⟨⟨_, Heap.get?_push_size _ rfl, rfl, rfl⟩, (isl2.push _)⟩ ?_ ?_
    · have at1 : ((s.heap.push (bare led)).push { cls := .type "list_iterator", data := .fields #[.ref l, .int 0 0] }).get? s.heap.objs.size = some (bare led) := Heap.get?_push_of_some _ at0
      refine PyProof.Rows.SetOf_congr ((PyProof.Rows.setObjOf_fresh (knd := strKind prog w) led).setOf at1 (by unfold scanBound; omega)) (fun k => ?_) rfl
      exact (decide_eq_false (fun c => by cases c)).symm
    · rintro ⟨h', g', d', tk', os'⟩ mv set
      cases (show g' = s.gens from mv.gens)
      cases (show d' = s.drawn from mv.drawn)
      cases (show os' = s.os from mv.os)
      show wpAny _ _ _ _ _ _
      apply wpAny_pure
      show wpAny _ _ (ret Value.none) _ _ _
      refine wpAny_pure ⟨rfl, h', tk', rfl, set, ?_⟩
      intro b o hb g3
      refine mv.heap b o ?_ (Heap.get?_push_of_some _ (Heap.get?_push_of_some _ g3))
      intro q
      simp only [List.mem_cons, List.not_mem_nil, or_false] at q
      rcases q with q | q
      · exact absurd q (Nat.ne_of_lt hb)
      · rw [sz1] at q
        exact absurd q (Nat.ne_of_lt (Nat.lt_succ_of_lt hb))
  · rintro (err | fl) s2 got2
    · exact got2
    cases fl
    case next => exact got2.elim
    case brk => exact got2.elim
    case cont => exact got2.elim
    case ret v2 =>
    obtain ⟨rfl, h', tk, rfl, set, kp⟩ := got2
    repeat (any_goals (first | assumption | wp_step))
    exact fin _ _ set kp
end
end Fs
namespace Fs
open PySem PySem.Spec PyProof.Rows L2
theorem strs_vals : ∀ {ys : List Str} {us : List Value}, Vals (ys.map V.str) us → StrsAre us ys
  | [], [], _ => .nil
  | y :: ys, _ :: us, .cons r t => by
    obtain ⟨k, e⟩ := r
    subst e
    exact .cons y k (strs_vals t)
/-- len(set(xs)), xs a list of texts -/
def tLenSetS (K : PySem.W.Frag) (ta : TE) : TE := fun σ H Q => ta σ H fun x H1 => ∃ (l : Addr) (xs : List Str), x = .ref l ∧ SqL K H1 l (xs.map V.str) ∧ xs.length ≤ 1000 ∧ Q (.int ((distinct xs).length : Nat)) H1
theorem pe_lenSetS {X : Cx} {a : Expr} {ta : TE} {p p2 q pos : Pos} (hm : X.mg "len" = none) (hm2 : X.mg "set" = none) (ha : PE X a ta) (hg : Gl X "len" := by rfl) (hg2 : Gl X "set" := by rfl) (hc : X.calm = true := by rfl)
    (na : starEach [a] X.env = (false, eval a X.env) :: starEach [] X.env := by rfl) : PE X (.Call (.Name "len" p) [.Call (.Name "set" p2) [a] [] q] [] pos) (tLenSetS X.K ta) := by
  constructor
  intro pins s σ H Q I want
  refine Call_ (ld_blt I hg hm PySem.boot_len (PyProof.Rows.callWith_builtin1 (PyProof.Rows.args_cons ?_ rfl) rfl rfl))
  refine Call_ (ld_blt I hg2 hm2 boot_set (PyProof.Rows.callWith_type1 (PyProof.Rows.args_cons (thn (ha.run pins s σ H _ I want) ?_) na) na rfl))
  rintro v s1 ⟨x, H1, I1, r1, l, xs, rfl, sq, sz, want1⟩
  cases r1
  refine PyProof.Rows.args_nil ?_
  obtain ⟨its, rel, pl, _⟩ := I1.list sq
  refine make_set (I1.ok.hd hc) pl.isList (by simpa using strs_vals rel) (by unfold scanBound; omega) fun h' tk set kp => PyProof.Rows.args_nil ?_
  obtain ⟨o, es, ep, t, g, ex, d, _, _, _, fits, cnt⟩ := set
  have I2 : Inv X pins σ H1 { s1 with heap := h', toks := tk } := I1.kept fun b o g2 => kp b o (Heap.lt_size g2) g2
  have dl := distinct_len xs
  exact call_len_set g ex d fits (by rw [cnt]; omega) ⟨.int _, H1, I2.tok _, ⟨_, by rw [cnt]⟩, want1⟩
end Fs
namespace Fs
open PySem PySem.Spec PyProof.Rows L2
/-! ### data: what repr shows, what isinstance tells -/
structure TOk (x : Str) : Prop where
  len : x.length ≤ 9000
  cod : ∀ c ∈ cps x, c < 16 ^ 8
mutual
inductive Dx (H : Hp) : V → PyData → Prop
  | non : Dx H .non .none
  | bl (b : Bool) : Dx H (.bl b) (.bool b)
  | int (i : Int) (h1 : i.natAbs.log2 < 1920) (h2 : ((PyData.int i).shown).length ≤ 100) : Dx H (.int i) (.int i)
  | str (x : Str) (h : TOk x) : Dx H (.str x) (.str x)
  | lst {a : Addr} {xs : List V} {ds : List PyData} : H a = some (.lst xs) → a ≠ sysModules → DxAll H xs ds → Dx H (.ref a) (.list ds)
  | tup {a : Addr} {xs : List V} {ds : List PyData} : H a = some (.tup xs) → DxAll H xs ds → Dx H (.ref a) (.tuple ds)
  | dct {a : Addr} {kvs : List (Key × V)} {ds : List (PyData × PyData)} : H a = some (.dK kvs) → DxKv H kvs ds → Dx H (.ref a) (.dict ds)
inductive DxAll (H : Hp) : List V → List PyData → Prop
  | nil : DxAll H [] []
  | cons {v : V} {vs : List V} {d : PyData} {ds : List PyData} : Dx H v d → DxAll H vs ds → DxAll H (v :: vs) (d :: ds)
inductive DxKv (H : Hp) : List (Key × V) → List (PyData × PyData) → Prop
  | nil : DxKv H [] []
  | cons {x : Str} {v : V} {d : PyData} {kvs : List (Key × V)} {ds : List (PyData × PyData)} : TOk x → Dx H v d → DxKv H kvs ds → DxKv H ((.inr x, v) :: kvs) ((.str x, d) :: ds)
end
mutual
theorem Dx.le {H H' : Hp} (e : Same H H') : ∀ {v : V} {d : PyData}, Dx H v d → Dx H' v d
  | _, _, .non => .non
  | _, _, .bl b => .bl b
  | _, _, .int i h1 h2 => .int i h1 h2
  | _, _, .str x h => .str x h
  | _, _, .lst h n a => .lst (e _ _ h) n (DxAll.le e a)
  | _, _, .tup h a => .tup (e _ _ h) (DxAll.le e a)
  | _, _, .dct h a => .dct (e _ _ h) (DxKv.le e a)
theorem DxAll.le {H H' : Hp} (e : Same H H') : ∀ {vs : List V} {ds : List PyData}, DxAll H vs ds → DxAll H' vs ds
  | _, _, .nil => .nil
  | _, _, .cons h t => .cons (Dx.le e h) (DxAll.le e t)
theorem DxKv.le {H H' : Hp} (e : Same H H') : ∀ {vs : List (Key × V)} {ds : List (PyData × PyData)}, DxKv H vs ds → DxKv H' vs ds
  | _, _, .nil => .nil
  | _, _, .cons k h t => .cons k (Dx.le e h) (DxKv.le e t)
end
/-- a dict's entries, two lists of data -/
theorem DxKv.split {H : Hp} : ∀ {vs : List (Key × V)} {ds : List (PyData × PyData)}, DxKv H vs ds → DxAll H (vs.map fun p => kV p.1) (ds.map (·.1)) ∧ DxAll H (vs.map (·.2)) (ds.map (·.2))
  | _, _, .nil => ⟨.nil, .nil⟩
  | _, _, .cons k h t => ⟨.cons (.str _ k) (DxKv.split t).1, .cons h (DxKv.split t).2⟩
theorem ents {P : Program} {w : World} : ∀ {kvs : List (Key × V)} {vs : List (Key × Value)} {es : List DictEntry}, KV kvs vs → PySem.Pairs (mixKind P w) es vs → Vals (kvs.map fun p => kV p.1) (es.map (·.key)) ∧ Vals (kvs.map (·.2)) (es.map (·.val))
  | _, _, _, .nil, .nil => ⟨.nil, .nil⟩
  | (k, v) :: _, (k', u) :: _, e :: _, .cons ⟨h1, h2⟩ t, .cons g1 g2 gt => by
    obtain ⟨i1, i2⟩ := ents t gt
    have h1 : k = k' := h1
    subst h1
    have g2 : e.val = u := g2
    have h2 : RelV v u := h2
    refine ⟨.cons (show RelV (kV k) e.key from ?_) i1, .cons (show RelV v e.val by rw [g2]; exact h2) i2⟩
    rcases keyIs_shape (show keyIs k e.key = true from g1) with ⟨i, t, ek, ev⟩ | ⟨x, t, ek, ev⟩
    · rw [ek, ev]; exact ⟨t, rfl⟩
    · rw [ek, ev]; exact ⟨t, rfl⟩
theorem pairs_len {P : Program} {w : World} : ∀ {vs : List (Key × Value)} {es : List DictEntry}, PySem.Pairs (mixKind P w) es vs → True := fun _ => trivial
section
variable {X : Cx} {pins : List (Addr × Obj)} {σ : L2.St} {H : Hp} {s : Shared}
mutual
theorem Dx.reads (I : Inv X pins σ H s) : ∀ (d : PyData) (v : V) (u : Value), Dx H v d → RelV v u → ∃ as, Reads s.heap u d as ∧ sysModules ∉ as
  | .none, _, _, h, r => by
    cases h
    cases r
    exact ⟨_, Reads.none, by simp⟩
  | .bool b, _, _, h, r => by
    cases h
    cases r
    exact ⟨_, Reads.bool b, by simp⟩
  | .int i, _, _, h, r => by
    cases h
    obtain ⟨t, rfl⟩ := r
    exact ⟨_, Reads.int i t, by simp⟩
  | .str x, _, _, h, r => by
    cases h
    obtain ⟨t, rfl⟩ := r
    exact ⟨_, Reads.str x t, by simp⟩
  | .list ds, _, _, h, r => by
    cases h with
    | lst hs hn ha =>
      cases r
      obtain ⟨_, its, n, rv, e⟩ := I.hok _ _ hs
      obtain ⟨as, hr, hno⟩ := Dx.readsAll I ds _ its ha rv
      exact ⟨_, Reads.list e rfl rfl (by simpa using hr), by simp [hno, Ne.symm hn]⟩
  | .tuple ds, _, _, h, r => by
    cases h with
    | tup hs ha =>
      cases r
      obtain ⟨_, its, rv, o, ho, hc, n, hd⟩ := I.hok _ _ hs
      obtain ⟨as, hr, hno⟩ := Dx.readsAll I ds _ its ha rv
      exact ⟨_, Reads.tuple ho hc hd (by simpa using hr), hno⟩
  | .dict ds, _, _, h, r => by
    cases h with
    | dct hs ha =>
      cases r
      obtain ⟨_, hsys, vs, kv, o, es, ep, ho, ex, hd, _, prs, _⟩ := I.hok _ _ hs
      obtain ⟨k1, k2⟩ := ents kv prs
      have hn := beq_eq_false_iff_ne.mp hsys
      obtain ⟨as, h1, n1⟩ := Dx.readsK I ds _ (es.toList.map (·.key)) ha k1
      obtain ⟨bs, h2, n2⟩ := Dx.readsV I ds _ (es.toList.map (·.val)) ha k2
      exact ⟨_, Reads.dict ho ex.1 hd h1 h2, by simp [n1, n2, Ne.symm hn]⟩
theorem Dx.readsAll (I : Inv X pins σ H s) : ∀ (ds : List PyData) (vs : List V) (us : List Value), DxAll H vs ds → Vals vs us → ∃ as, ReadsAll s.heap us ds as ∧ sysModules ∉ as
  | [], _, _, h, r => by
    cases h
    cases r
    exact ⟨_, ReadsAll.nil, by simp⟩
  | d :: ds, _, _, h, r => by
    cases h with
    | cons h1 h2 =>
      cases r with
      | cons r1 r2 =>
        obtain ⟨as, q1, n1⟩ := Dx.reads I d _ _ h1 r1
        obtain ⟨bs, q2, n2⟩ := Dx.readsAll I ds _ _ h2 r2
        exact ⟨_, ReadsAll.cons q1 q2, by simp [n1, n2]⟩
theorem Dx.readsK (I : Inv X pins σ H s) : ∀ (ds : List (PyData × PyData)) (vs : List (Key × V)) (us : List Value), DxKv H vs ds → Vals (vs.map fun p => kV p.1) us → ∃ as, ReadsAll s.heap us (ds.map (·.1)) as ∧ sysModules ∉ as
  | [], _, _, h, r => by
    cases h
    cases r
    exact ⟨_, ReadsAll.nil, by simp⟩
  | (_, d) :: ds, _, _, h, r => by
    cases h with
    | cons h0 h1 h2 =>
      cases r with
      | cons r1 r2 =>
        obtain ⟨t, rfl⟩ := r1
        obtain ⟨bs, q2, n2⟩ := Dx.readsK I ds _ _ h2 r2
        exact ⟨_, ReadsAll.cons (Reads.str _ t) q2, by simp [n2]⟩
theorem Dx.readsV (I : Inv X pins σ H s) : ∀ (ds : List (PyData × PyData)) (vs : List (Key × V)) (us : List Value), DxKv H vs ds → Vals (vs.map (·.2)) us → ∃ as, ReadsAll s.heap us (ds.map (·.2)) as ∧ sysModules ∉ as
  | [], _, _, h, r => by
    cases h
    cases r
    exact ⟨_, ReadsAll.nil, by simp⟩
  | (_, d) :: ds, _, _, h, r => by
    cases h with
    | cons h0 h1 h2 =>
      cases r with
      | cons r1 r2 =>
        obtain ⟨as, q1, n1⟩ := Dx.reads I d _ _ h1 r1
        obtain ⟨bs, q2, n2⟩ := Dx.readsV I ds _ _ h2 r2
        exact ⟨_, ReadsAll.cons q1 q2, by simp [n1, n2]⟩
end
end
mutual
theorem Dx.short {H : Hp} : ∀ {v : V} {d : PyData}, Dx H v d → d.leavesShort 100 = true ∧ d.showable = true
  | _, _, .non => ⟨rfl, rfl⟩
  | _, _, .bl b => ⟨rfl, rfl⟩
  | _, _, .int i h1 h2 => ⟨by simpa only [PyData.leavesShort, decide_eq_true_eq] using h2, by simpa only [PyData.showable, decide_eq_true_eq] using h1⟩
  | _, _, .str x h => ⟨by simpa only [PyData.leavesShort, List.all_eq_true, decide_eq_true_eq] using h.cod, rfl⟩
  | _, _, .lst h n a => by
    obtain ⟨i1, i2⟩ := DxAll.short a
    exact ⟨by simpa only [PyData.leavesShort] using i1, by simpa only [PyData.showable] using i2⟩
  | _, _, .tup h a => by
    obtain ⟨i1, i2⟩ := DxAll.short a
    exact ⟨by simpa only [PyData.leavesShort] using i1, by simpa only [PyData.showable] using i2⟩
  | _, _, .dct h a => by
    obtain ⟨i1, i2⟩ := DxKv.short a
    exact ⟨by simpa only [PyData.leavesShort] using i1, by simpa only [PyData.showable] using i2⟩
theorem DxAll.short {H : Hp} : ∀ {vs : List V} {ds : List PyData}, DxAll H vs ds → PyData.leavesShortAll 100 ds = true ∧ PyData.showableAll ds = true
  | _, _, .nil => ⟨rfl, rfl⟩
  | _, _, .cons h t => by
    obtain ⟨i1, i2⟩ := Dx.short h
    obtain ⟨j1, j2⟩ := DxAll.short t
    exact ⟨by simp only [PyData.leavesShortAll, i1, j1, Bool.and_self], by simp only [PyData.showableAll, i2, j2, Bool.and_self]⟩
theorem DxKv.short {H : Hp} : ∀ {vs : List (Key × V)} {ds : List (PyData × PyData)}, DxKv H vs ds → PyData.leavesShortKv 100 ds = true ∧ PyData.showableKv ds = true
  | _, _, .nil => ⟨rfl, rfl⟩
  | _, _, .cons (x := x) k h t => by
    obtain ⟨i1, i2⟩ := Dx.short h
    obtain ⟨j1, j2⟩ := DxKv.short t
    have k1 : PyData.leavesShort 100 (.str x) = true := by simpa only [PyData.leavesShort, List.all_eq_true, decide_eq_true_eq] using k.cod
    exact ⟨by simp only [PyData.leavesShortKv, k1, i1, j1, Bool.and_self], by simp only [PyData.showableKv, PyData.showable, i2, j2, Bool.and_self]⟩
end
/-- small data -/
structure Fit (n m : Nat) (d : PyData) : Prop where
  we : d.weight ≤ n
  de : d.depth ≤ m
section
variable {X : Cx} {k : Nat}
/-- repr of data in a list, a tuple, a dict -/
def rReprD : List V → Hp → VK → Prop := fun xs H Q => ∃ (a : Addr) (d : PyData), xs = [.ref a] ∧ Dx H (.ref a) d ∧ Fit 100000 30 d ∧ Q (.str d.shown) H
theorem call_reprD (hr : Rm k X.A) : CallR X (.builtin "repr") rReprD := by
  intro pins s σ H xs us Q I rel h
  obtain ⟨a, d, rfl, hd, ft, q⟩ := h
  obtain ⟨u, rfl, rx⟩ := vals1 rel
  cases rx
  obtain ⟨as, r, hno⟩ := Dx.reads I d _ _ hd rfl
  obtain ⟨h1, h2⟩ := hd.short
  have h3 := PyData.shown_le 100 (by decide) d h1
  have h4 := ft.we
  have h5 := ft.de
  have h6 := hr.rm.units
  exact repr_of_reads' r h2 (fun _ => hno) hr.gd (by omega) (fun _ _ e => e) (fun h' u tk hk => ⟨.str d.shown, H, I.kept hk, ⟨u, rfl⟩, q⟩) (by rw [sizeLine_eq]; omega)
/-- [e, ..], a list that is none of the module table -/
def tLstN (t : TA) : TE := fun σ H Q => t σ H fun xs H1 => xs.length ≤ sizeLine ∧ ∀ p, H1 p = none → p ≠ sysModules → Q (.ref p) (upd H1 p (.lst xs))
theorem pe_lstN {es : List Expr} {t : TA} {pos : Pos} (h : PA X es t) : PE X (.List es pos) (tLstN t) := by
  refine ⟨fun pins s σ H Q I hq => ?_⟩
  refine wpAny_List_spliced (thn (h.run pos pins s σ H _ I hq) fun us s1 ⟨xs, H1, I1, r, z, q⟩ => ⟨by rw [← r.length]; exact z, ?_⟩)
  have hf : H1 s1.heap.objs.size = none := I1.hok.fresh (Nat.le_refl _)
  refine ⟨.ref s1.heap.objs.size, upd H1 s1.heap.objs.size (.lst xs), I1.laid (t' := s1.toks) (fun b u e => Heap.get?_push_of_some _ e) (Nat.le_refl _) ?_, rfl, q _ hf (Nat.ne_of_gt I1.big)⟩
  exact ⟨z, us, 0, r, Heap.get?_push_size _ rfl⟩
end
end Fs
namespace Fs
open PySem PySem.Spec PyProof.Rows L2
def qInS : R2 := fun x y H Q => ∃ (c : Nat) (z : Str), x = .str ⟨#[c]⟩ ∧ y = .str z ∧ Q (.bl (decide (c ∈ z.cps.toList))) H
def qLtS : R2 := fun x y H Q => ∃ i j, x = .str i ∧ y = .str j ∧ Q (.bl (decide (i.cps.toList < j.cps.toList))) H
def qFind : V → List V → Hp → VK → Prop := fun x xs H Q => ∃ a b, x = .str a ∧ xs = [.str b] ∧ Q (.int (Txt.find a b)) H
/-! ### what is a name, signs, a part, streams -/
def isStrD : PyData → Bool
  | .str _ => true
  | _ => false
def isTupD : PyData → Bool
  | .tuple _ => true
  | _ => false
def isNameD : PyData → Bool
  | .str x => nameL (cps x)
  | _ => false
def isSignsD : PyData → Bool
  | .str x => signsL (cps x)
  | _ => false
def isPartD : PyData → Bool
  | .tuple [a, b] => isNameD a && isSignsD b
  | _ => false
def arePartsD (least : Nat) : PyData → Bool
  | .tuple ds => decide (least ≤ ds.length) && decide (ds.length ≤ 3) && ds.all isPartD
  | _ => false
def nameOf : PyData → Str
  | .tuple (.str x :: _) => x
  | _ => ""
def namesD : PyData → List Str
  | .tuple ds => ds.map nameOf
  | _ => []
def areStreamsD (a b : PyData) : Bool := arePartsD 1 a && arePartsD 0 b && decide ((namesD a ++ namesD b).Nodup)
/-- a judge of one value -/
def spIs (f : PyData → Bool) : Sp := fun vs H Q _ => ∃ (v : V) (d : PyData), vs = [v] ∧ Dx H v d ∧ ∀ H', Same H H' → Q (.bl (f d)) H'
section
variable {K : PySem.W.Frag} {H : Hp} {v : V} {d : PyData} {Q : VK}
theorem tyx_of (h : Dx H v d) : ∃ n : String, TyX K H v (.type n) ∧ kitB n "str" = some (isStrD d) ∧ kitB n "tuple" = some (isTupD d) := by
  cases h with
  | non => exact ⟨"NoneType", .base .non, (by decide +kernel : kitB "NoneType" "str" = some false), (by decide +kernel : kitB "NoneType" "tuple" = some false)⟩
  | bl b => exact ⟨"bool", .base (.bl b), (by decide +kernel : kitB "bool" "str" = some false), (by decide +kernel : kitB "bool" "tuple" = some false)⟩
  | int i _ _ => exact ⟨"int", .base (.int i), (by decide +kernel : kitB "int" "str" = some false), (by decide +kernel : kitB "int" "tuple" = some false)⟩
  | str x _ => exact ⟨"str", .base (.str x), (by decide +kernel : kitB "str" "str" = some true), (by decide +kernel : kitB "str" "tuple" = some false)⟩
  | lst e _ _ => exact ⟨"list", .base (.lst e), (by decide +kernel : kitB "list" "str" = some false), (by decide +kernel : kitB "list" "tuple" = some false)⟩
  | tup e _ => exact ⟨"tuple", .base (.tup e), (by decide +kernel : kitB "tuple" "str" = some false), (by decide +kernel : kitB "tuple" "tuple" = some true)⟩
  | dct e _ => exact ⟨"dict", .base (.dK e), (by decide +kernel : kitB "dict" "str" = some false), (by decide +kernel : kitB "dict" "tuple" = some false)⟩
end
def LET : Str := "abcdefghijklmnopqrstuvwxyz"
theorem in_let (c : Nat) : decide (c ∈ cps LET) = (decide (97 ≤ c) && decide (c ≤ 122)) := by
  by_cases h : c < 128
  · have : ∀ c : Nat, c < 128 → decide (c ∈ cps LET) = (decide (97 ≤ c) && decide (c ≤ 122)) := by decide +kernel
    exact this c h
  · have h1 : ¬ c ≤ 122 := by omega
    have h2 : ∀ x ∈ cps LET, x ≤ 122 := by decide +kernel
    rw [decide_eq_false h1, decide_eq_false (fun m => h1 (h2 c m)), Bool.and_false]
theorem all_let (l : List Nat) : (l.map fun c => decide (c ∈ cps LET)).all id = lowL l := by
  rw [List.all_map]
  unfold lowL
  congr 1
  funext c
  exact in_let c
/-- constants of the module -/
structure Gs (mg : Str → Option Value) : Prop where
  g_LETTERS : ∃ t, mg "LETTERS" = some (.str "abcdefghijklmnopqrstuvwxyz" t)
  g_END : ∃ t, mg "END" = some (.str "end" t)
  g_MAX_NAME : ∃ t, mg "MAX_NAME" = some (.int 8 t)
  g_MAX_SIGNS : ∃ t, mg "MAX_SIGNS" = some (.int 4 t)
  g_MAX_STREAMS : ∃ t, mg "MAX_STREAMS" = some (.int 3 t)
  g_MAX_WORD : ∃ t, mg "MAX_WORD" = some (.int 200 t)
section
variable {X : Cx} {x : Str} {pos : Pos}
theorem pe_gstr {z : Str} (h : ∃ t, X.mg x = some (.str z t)) (hg : Gl X x := by rfl) (hd : (x == ("__debug__" : Str)) = false := by decide) : PE X (.Name x pos) (tC (.str z)) := by
  obtain ⟨t, h⟩ := h
  exact pe_glob hg h ⟨t, rfl⟩ hd
theorem pe_gint {z : Int} (h : ∃ t, X.mg x = some (.int z t)) (hg : Gl X x := by rfl) (hd : (x == ("__debug__" : Str)) = false := by decide) : PE X (.Name x pos) (tC (.int z)) := by
  obtain ⟨t, h⟩ := h
  exact pe_glob hg h ⟨t, rfl⟩ hd
end
section
variable {P : Program} {w : World} {K : PySem.W.Frag} {mg : Str → Option Value} {base : Heap}
theorem take_snoc {α : Type} {l : List α} {i : Nat} {x : α} (h : l[i]? = some x) : l.take (i + 1) = l.take i ++ [x] := by rw [List.take_add_one, h]; rfl
abbrev s_p_name : Stmt := top 12
theorem sc_p_name : FnScope ["value", "letter"] ["value"] (defScope s_p_name) := ⟨rfl, rfl, rfl, by decide +kernel, rfl, by decide +kernel, by decide +kernel⟩
theorem cal_p_name (T : Bs mg) (G : Gs mg) (D : Df K mg "is_name" s_p_name ["value"]) : Cal P w K mg base 1 "is_name" (spIs isNameD) := by
  refine D.cal sc_p_name (fun vs H Q E h => ?_) (fun f cdv A outer s H vs Q E hr h => ?_)
  · obtain ⟨v, d, rfl, _⟩ := h
    rfl
  · obtain ⟨v, d, rfl, hd, k⟩ := h
    refine ⟨_, pss_cons (ps_if (PW.pt (pw_or (pt_not (pt_val (pb call_isi T.z_isinstance (pa_cons (pv 0) (pa_cons (pe_bltn (v := .ty "str") (u := .type "str") rfl T.z_str (by decide +kernel) rfl) pa_nil))))) (pw_or (pt_not (pt_chain op_le op_le pe_int (pb call_len3 T.z_len (pa_cons (pv 0) pa_nil)) (pe_gint G.g_MAX_NAME))) (pw_or1 (pt_cmpR op_eq (pv 0) (pe_gstr G.g_END) (nomark _))))))
        (pss_one (ps_ret pe_bl))
        pss_nil)
      (pss_one (ps_ret (pb (cr_all rfl) T.z_all (pa_cons (pe_lc (own := [("letter", 1)]) (te := (tOp qInS (tVar 1) (tC (.str "abcdefghijklmnopqrstuvwxyz")))) rfl sc_p_name.nd (pi_str (pv 0)) (blkOk_by (N := ["value", "letter"]) (sc := defScope s_p_name) (by decide +kernel)) (fun _ _ _ _ _ => (pg_name (i := 1) sc_p_name.nd rfl (Or.inl rfl))) (fun _ _ _ _ _ => pts_nil) (fun _ _ _ _ _ => (pe_cmpR op_in_sign (pv 1) (pe_gstr G.g_LETTERS) (by rfl)))) pa_nil)))), ?_⟩
    obtain ⟨n, ty, h1, h2⟩ := tyx_of (K := K) hd
    refine ⟨_, rfl, v, .ty "str", _, _, _, rfl, .ty "str", ty, kit_ty h1, _, rfl, ?_⟩
    cases hd with
    | str z hz =>
      refine iteF ?_
      have hl : z.length ≤ 100000 := by have := hz.len; omega
      have hlen : ((cps z).map S1).length = z.length := by rw [List.length_map, ← len_cps]
      refine ⟨_, rfl, _, _, rfl, Of3.str hl, _, _, rfl, rfl, _, rfl, ?_⟩
      rw [hlen]
      have bad : ∀ H', Same H H' → nameL (cps z) = false → Q (.bl false) H' := fun H' e q => by
        have := k H' e
        rw [show isNameD (.str z) = nameL (cps z) from rfl, q] at this
        exact this
      have nl : nameL (cps z) = (decide (1 ≤ z.length) && decide (z.length ≤ 8) && lowL (cps z) && !decide (cps z = [101, 110, 100])) := by unfold nameL; rw [len_cps]
      refine ite2 (fun c1 => ?_) (fun c1 => ?_)
      · have c1 : (1 : Int) ≤ z.length := of_decide_eq_true c1
        refine ⟨_, _, rfl, rfl, _, rfl, ?_⟩
        refine ite2 (fun c2 => ?_) (fun c2 => ?_)
        · have c2 : ¬ (z.length : Int) ≤ 8 := by simpa using c2
          refine iteT ?_
          exact bad H (Same.refl H) (by rw [nl, decide_eq_false (show ¬ z.length ≤ 8 by omega)]; simp)
        · have c2 : (z.length : Int) ≤ 8 := by simpa using c2
          refine ⟨_, rfl, rfl, _, rfl, ?_⟩
          refine ite2 (fun c3 => ?_) (fun c3 => ?_)
          · have c3 : V.str z = V.str "end" := of_decide_eq_true c3
            injection c3 with c3
            subst c3
            exact bad H (Same.refl H) (by decide +kernel)
          · have c3 : ¬ V.str z = V.str "end" := fun q => c3 (decide_eq_true q)
            refine ⟨_, rfl, z, rfl, fun D hD => ?_⟩
            refine lc_it walk_str (fun i H1 => Same H H1 ∧ H1 D = some (.lst (((cps z).take i).map fun c => V.bl (decide (c ∈ cps LET))))) ?_ ?_ ?_ ?_
            · exact ⟨same_upd (Same.refl H) hD, upd_same⟩
            · exact fun _ _ _ _ => trivial
            · rintro i x H1 H2 hi ⟨e1, e2⟩ ⟨rfl, c, hc, rfl⟩
              have hc' : (cps z)[i]? = some c := by rw [← Array.getElem?_toList] at hc; exact hc
              refine ⟨rfl, _, rfl, c, LET, rfl, rfl, _, e2, ?_, same_mut e1 hD, ?_⟩
              · have h8 : i < z.length := hi
                have h9 : ((cps z).take i).length ≤ i := List.length_take_le ..
                rw [List.length_map, sizeLine_eq]; omega
              · rw [upd_same, take_snoc hc', List.map_append]; rfl
            · rintro H1 ⟨e1, e2⟩
              refine ⟨D, (cps z).map fun c => decide (c ∈ cps LET), rfl, SqL.of ?_, ?_⟩
              · rw [e2, List.take_of_length_le (by rw [← len_cps]; exact Nat.le_refl _), List.map_map]; rfl
              · rw [all_let]
                have := k H1 e1
                have e : isNameD (.str z) = lowL (cps z) := by
                  show nameL (cps z) = _
                  rw [nl, decide_eq_true (show 1 ≤ z.length by omega), decide_eq_true (show z.length ≤ 8 by omega), decide_eq_false (show ¬ cps z = [101, 110, 100] from fun q => c3 (congrArg V.str (cps_inj (q.trans (by decide +kernel)))))]
                  simp
                rw [e] at this
                exact this
      · have c1 : ¬ (1 : Int) ≤ z.length := fun q => c1 (decide_eq_true q)
        refine ⟨_, rfl, iteT (iteT ?_)⟩
        exact bad H (Same.refl H) (by rw [nl, decide_eq_false (show ¬ 1 ≤ z.length by omega)]; simp)
    | _ => exact iteT (k _ (Same.refl H))
end
end Fs
namespace Fs
open PySem PySem.Spec PyProof.Rows L2
theorem lt_S1 (c d : Nat) : decide ((⟨#[c]⟩ : Str).cps.toList < (⟨#[d]⟩ : Str).cps.toList) = decide (c < d) := by
  show decide (([c] : List Nat) < [d]) = _
  simp [List.cons_lt_cons_iff]
theorem asc_zip : ∀ l : List Nat, ((l.zip (l.drop 1)).map fun p => decide (p.1 < p.2)).all id = ascL l
  | [] => rfl
  | [_] => rfl
  | a :: b :: r => by
    have := asc_zip (b :: r)
    show (decide (a < b) && (((b :: r).zip r).map fun p => decide (p.1 < p.2)).all id) = (decide (a < b) && ascL (b :: r))
    rw [← this]; rfl
theorem cps_cut1 (z : Str) : cps (cutS z (some 1) none) = (cps z).drop 1 := by
  show (((z.cps.toList.drop (HT.sIx z.length 0 (some 1))).take (HT.sIx z.length z.length none - HT.sIx z.length 0 (some 1))).toArray).toList = z.cps.toList.drop 1
  have e1 : HT.sIx z.length 0 (some 1) = min 1 z.length := HT.sIx_nat z.length 0 1
  have e2 : HT.sIx z.length z.length none = z.length := HT.sIx_none ..
  rw [e1, e2]
  have e3 : z.length = z.cps.toList.length := len_cps z
  by_cases c : 1 ≤ z.length
  · rw [Nat.min_eq_left c]
    show (((z.cps.toList.drop 1).take (z.length - 1)) : List Nat) = _
    rw [List.take_of_length_le (by rw [List.length_drop, ← e3]; exact Nat.le_refl _)]
  · have : z.cps.toList = [] := List.eq_nil_of_length_eq_zero (by omega)
    rw [this]; simp
section
variable {P : Program} {w : World} {K : PySem.W.Frag} {mg : Str → Option Value} {base : Heap}
abbrev s_p_signs : Stmt := top 13
theorem sc_p_signs : FnScope ["value", "sign", "one", "other"] ["value"] (defScope s_p_signs) := ⟨rfl, rfl, rfl, by decide +kernel, rfl, by decide +kernel, by decide +kernel⟩
theorem cal_p_signs (T : Bs mg) (G : Gs mg) (D : Df K mg "is_signs" s_p_signs ["value"]) : Cal P w K mg base 1 "is_signs" (spIs isSignsD) := by
  refine D.cal sc_p_signs (fun vs H Q E h => ?_) (fun f cdv A outer s H vs Q E hr h => ?_)
  · obtain ⟨v, d, rfl, _⟩ := h
    rfl
  · obtain ⟨v, d, rfl, hd, k⟩ := h
    refine ⟨_, pss_cons (ps_if (PW.pt (pw_or (pt_not (pt_val (pb call_isi T.z_isinstance (pa_cons (pv 0) (pa_cons (pe_bltn (v := .ty "str") (u := .type "str") rfl T.z_str (by decide +kernel) rfl) pa_nil))))) (pw_or (pt_not (pt_chain op_le op_le pe_int (pb call_len3 T.z_len (pa_cons (pv 0) pa_nil)) (pe_gint G.g_MAX_SIGNS))) (pw_or1 (pt_not (pt_val (pb (cr_all rfl) T.z_all (pa_cons (pe_lc (own := [("sign", 1)]) (te := (tOp qInS (tVar 1) (tC (.str "abcdefghijklmnopqrstuvwxyz")))) rfl sc_p_signs.nd (pi_str (pv 0)) (blkOk_by (N := ["value", "sign", "one", "other"]) (sc := defScope s_p_signs) (by decide +kernel)) (fun _ _ _ _ _ => (pg_name (i := 1) sc_p_signs.nd rfl (Or.inl rfl))) (fun _ _ _ _ _ => pts_nil) (fun _ _ _ _ _ => (pe_cmpR op_in_sign (pv 1) (pe_gstr G.g_LETTERS) (by rfl)))) pa_nil))))))))
        (pss_one (ps_ret pe_bl))
        pss_nil)
      (pss_one (ps_ret (pb (cr_all rfl) T.z_all (pa_cons (pe_lc (own := [("one", 2), ("other", 3)]) (te := (tOp qLtS (tVar 2) (tVar 3))) (g := gTup K 2 (gCons (gName 2) (gCons (gName 3) gNil))) rfl sc_p_signs.nd (pi_zipS T.z_zip (pa_cons (pv 0) (pa_cons (pe_slice sl_str (pv 0) (po_some pe_int) po_none) pa_nil))) (blkOk_by (N := ["value", "sign", "one", "other"]) (sc := defScope s_p_signs) (by decide +kernel)) (fun _ _ _ _ _ => (pg_tup rfl (pgs_cons (pg_name (i := 2) sc_p_signs.nd rfl (Or.inl rfl)) (pgs_cons (pg_name (i := 3) sc_p_signs.nd rfl (Or.inl rfl)) pgs_nil)))) (fun _ _ _ _ _ => pts_nil) (fun _ _ _ _ _ => (pe_cmpR op_lt_str (pv 2) (pv 3) (nomark _)))) pa_nil)))), ?_⟩
    obtain ⟨n, ty, h1, h2⟩ := tyx_of (K := K) hd
    refine ⟨_, rfl, v, .ty "str", _, _, _, rfl, .ty "str", ty, kit_ty h1, _, rfl, ?_⟩
    cases hd with
    | str z hz =>
      refine iteF ?_
      have hl : z.length ≤ 100000 := by have := hz.len; omega
      have hlen : ((cps z).map S1).length = z.length := by rw [List.length_map, ← len_cps]
      refine ⟨_, rfl, _, _, rfl, Of3.str hl, _, _, rfl, rfl, _, rfl, ?_⟩
      rw [hlen]
      have bad : ∀ H', Same H H' → signsL (cps z) = false → Q (.bl false) H' := fun H' e q => by
        have := k H' e
        rw [show isSignsD (.str z) = signsL (cps z) from rfl, q] at this
        exact this
      have nl : signsL (cps z) = (decide (1 ≤ z.length) && decide (z.length ≤ 4) && lowL (cps z) && ascL (cps z)) := by unfold signsL; rw [len_cps]
      refine ite2 (fun c1 => ?_) (fun c1 => ?_)
      · have c1 : (1 : Int) ≤ z.length := of_decide_eq_true c1
        refine ⟨_, _, rfl, rfl, _, rfl, ?_⟩
        refine ite2 (fun c2 => ?_) (fun c2 => ?_)
        · have c2 : ¬ (z.length : Int) ≤ 4 := by simpa using c2
          refine iteT ?_
          exact bad H (Same.refl H) (by rw [nl, decide_eq_false (show ¬ z.length ≤ 4 by omega)]; simp)
        · have c2 : (z.length : Int) ≤ 4 := by simpa using c2
          refine ⟨_, rfl, z, rfl, fun D hD => ?_⟩
          refine lc_it walk_str (fun i H1 => Same H H1 ∧ H1 D = some (.lst (((cps z).take i).map fun c => V.bl (decide (c ∈ cps LET))))) ?_ ?_ ?_ ?_
          · exact ⟨same_upd (Same.refl H) hD, upd_same⟩
          · exact fun _ _ _ _ => trivial
          · rintro i x H1 H2 hi ⟨e1, e2⟩ ⟨rfl, c, hc, rfl⟩
            have hc' : (cps z)[i]? = some c := by rw [← Array.getElem?_toList] at hc; exact hc
            refine ⟨rfl, _, rfl, c, LET, rfl, rfl, _, e2, ?_, same_mut e1 hD, ?_⟩
            · have h8 : i < z.length := hi
              have h9 : ((cps z).take i).length ≤ i := List.length_take_le ..
              rw [List.length_map, sizeLine_eq]; omega
            · rw [upd_same, take_snoc hc', List.map_append]; rfl
          · rintro H1 ⟨e1, e2⟩
            refine ⟨D, (cps z).map fun c => decide (c ∈ cps LET), rfl, SqL.of ?_, _, rfl, ?_⟩
            · rw [e2, List.take_of_length_le (by rw [← len_cps]; exact Nat.le_refl _), List.map_map]; rfl
            · rw [all_let]
              refine ite2 (fun c3 => ?_) (fun c3 => ?_)
              · have c3 : lowL (cps z) = false := by simpa using c3
                exact bad H1 e1 (by rw [nl, c3]; simp)
              · have c3 : lowL (cps z) = true := by simpa using c3
                refine ⟨_, rfl, _, rfl, _, rfl, z, rfl, by rw [sizeLine_eq]; omega, _, _, rfl, fun D2 hD2 => ?_⟩
                have hcut := cps_cut1 z
                generalize cutS z (some 1) none = z1 at hcut
                have hl1 : z1.length = z.length - 1 := by rw [len_cps, len_cps, hcut, List.length_drop]
                refine lc_it (walk_zipS (n := z.length - 1) (by show _ = min z.length z1.length; omega)) (fun i H2 => Same H H2 ∧ H2 D2 = some (.lst ((((cps z).zip ((cps z).drop 1)).take i).map fun p => V.bl (decide (p.1 < p.2))))) ?_ ?_ ?_ ?_
                · exact ⟨same_upd e1 hD2, upd_same⟩
                · exact fun _ _ _ _ => trivial
                · rintro i x H2 H3 hi ⟨g1, g2⟩ ⟨t, c, d, rfl, ht, rfl, hc, hd⟩
                  have hc' : (cps z)[i]? = some c := by rw [← Array.getElem?_toList] at hc; exact hc
                  have hd' : ((cps z).drop 1)[i]? = some d := by rw [← Array.getElem?_toList] at hd; rw [← hcut]; exact hd
                  have hcd : ((cps z).zip ((cps z).drop 1))[i]? = some (c, d) := List.getElem?_zip_eq_some.mpr ⟨hc', hd'⟩
                  have hD2t : D2 ≠ t := ne_of_none g2 ht
                  refine ⟨t, _, rfl, SqT.of upd_same, rfl, _, _, rfl, _, _, rfl, rfl, ?_⟩
                  refine ⟨rfl, _, rfl, _, rfl, ⟨#[c]⟩, ⟨#[d]⟩, rfl, rfl, _, by rw [upd_ne hD2t]; exact g2, ?_, same_mut (same_upd g1 ht) (e1.free hD2), ?_⟩
                  · have h9 : (((cps z).zip ((cps z).drop 1)).take i).length ≤ i := List.length_take_le ..
                    rw [List.length_map, sizeLine_eq]; omega
                  · rw [upd_same, take_snoc hcd, List.map_append, lt_S1]; rfl
                · rintro H2 ⟨g1, g2⟩
                  refine ⟨D2, ((cps z).zip ((cps z).drop 1)).map fun p => decide (p.1 < p.2), rfl, SqL.of ?_, ?_⟩
                  · rw [g2, List.take_of_length_le (by rw [List.length_zip, List.length_drop, ← len_cps]; omega), List.map_map]; rfl
                  · rw [asc_zip]
                    have := k H2 g1
                    have e : isSignsD (.str z) = ascL (cps z) := by
                      show signsL (cps z) = _
                      rw [nl, decide_eq_true (show 1 ≤ z.length by omega), decide_eq_true (show z.length ≤ 4 by omega), c3]
                      simp
                    rw [e] at this
                    exact this
      · have c1 : ¬ (1 : Int) ≤ z.length := fun q => c1 (decide_eq_true q)
        refine ⟨_, rfl, iteT (iteT ?_)⟩
        exact bad H (Same.refl H) (by rw [nl, decide_eq_false (show ¬ 1 ≤ z.length by omega)]; simp)
    | _ => exact iteT (k _ (Same.refl H))
end
end Fs
namespace Fs
open PySem PySem.Spec PyProof.Rows L2
theorem DxAll.length {H : Hp} : ∀ {vs : List V} {ds : List PyData}, DxAll H vs ds → vs.length = ds.length
  | _, _, .nil => rfl
  | _, _, .cons h t => congrArg (· + 1) (DxAll.length t)
theorem DxAll.get {H : Hp} : ∀ {vs : List V} {ds : List PyData} {i : Nat} {v : V}, DxAll H vs ds → vs[i]? = some v → ∃ d, ds[i]? = some d ∧ Dx H v d
  | _, _, i, v, .nil, h => by simp at h
  | _, _, 0, v, .cons (d := d) h t, e => by
    simp only [List.getElem?_cons_zero, Option.some.injEq] at e
    subst e
    exact ⟨d, rfl, h⟩
  | _, _, i + 1, v, .cons h t, e => by
    simp only [List.getElem?_cons_succ] at e ⊢
    exact DxAll.get t e
theorem DxAll.append {H : Hp} : ∀ {vs ws : List V} {ds es : List PyData}, DxAll H vs ds → DxAll H ws es → DxAll H (vs ++ ws) (ds ++ es)
  | _, _, _, _, .nil, h => h
  | _, _, _, _, .cons h t, g => .cons h (DxAll.append t g)
theorem DxAll.two {H : Hp} {vs : List V} {ds : List PyData} (h : DxAll H vs ds) (l : vs.length = 2) : ∃ x y a b, vs = [x, y] ∧ ds = [a, b] ∧ Dx H x a ∧ Dx H y b := by
  cases h with
  | nil => cases l
  | cons h1 t =>
    cases t with
    | nil => cases l
    | cons h2 t =>
      cases t with
      | nil => exact ⟨_, _, _, _, rfl, rfl, h1, h2⟩
      | cons _ _ => simp at l
section
variable {P : Program} {w : World} {K : PySem.W.Frag} {mg : Str → Option Value} {base : Heap}
abbrev s_p_part : Stmt := top 14
theorem sc_p_part : FnScope ["value"] ["value"] (defScope s_p_part) := ⟨rfl, rfl, rfl, by decide +kernel, rfl, by decide +kernel, by decide +kernel⟩
theorem cal_p_part (T : Bs mg) (D : Df K mg "is_part" s_p_part ["value"]) (C_p_name : Cal P w K mg base 1 "is_name" (spIs isNameD)) (C_p_signs : Cal P w K mg base 1 "is_signs" (spIs isSignsD)) : Cal P w K mg base 2 "is_part" (spIs isPartD) := by
  refine D.cal sc_p_part (fun vs H Q E h => ?_) (fun f cdv A outer s H vs Q E hr h => ?_)
  · obtain ⟨v, d, rfl, _⟩ := h
    rfl
  · obtain ⟨v, d, rfl, hd, k⟩ := h
    refine ⟨_, pss_one (ps_ret (pe_and (pb call_isi T.z_isinstance (pa_cons (pv 0) (pa_cons (pe_bltn (v := .ty "tuple") (u := .type "tuple") rfl T.z_tuple (by decide +kernel) rfl) pa_nil))) (pe_and (pe_cmpR op_eq (pb call_len3 T.z_len (pa_cons (pv 0) pa_nil)) pe_int (nomark _)) (pe_and (pc C_p_name hr (pa_cons (pe_ix ix_tup (pv 0) pe_int (fun _ _ => rfl)) pa_nil)) (pe_one (pc C_p_signs hr (pa_cons (pe_ix ix_tup (pv 0) pe_int (fun _ _ => rfl)) pa_nil))))))), ?_⟩
    obtain ⟨n, ty, h1, h2⟩ := tyx_of (K := K) hd
    refine ⟨_, rfl, v, .ty "tuple", _, _, _, rfl, .ty "tuple", ty, kit_ty h2, _, rfl, ?_⟩
    cases hd with
    | @tup a xs ds e ha =>
      refine iteT ?_
      refine ⟨_, rfl, _, _, rfl, Of3.tup e, rfl, _, rfl, ?_⟩
      refine ite2 (fun c => ?_) (fun c => ?_)
      · have c : V.int (xs.length : Int) = V.int 2 := of_decide_eq_true c
        injection c with c
        obtain ⟨x, y, dx, dy, rfl, rfl, hx, hy⟩ := ha.two (by omega)
        refine ⟨_, rfl, a, _, 0, x, rfl, rfl, SqT.of e, rfl, x, dx, rfl, hx, fun H1 e1 => ⟨_, rfl, ?_⟩⟩
        cases c1 : isNameD dx with
        | false =>
          refine iteF ?_
          have := k H1 e1
          rw [show isPartD (.tuple [dx, dy]) = (isNameD dx && isSignsD dy) from rfl, c1] at this
          exact this
        | true =>
          refine iteT ?_
          refine ⟨_, rfl, a, _, 1, y, rfl, rfl, SqT.of (e1 _ _ e), rfl, y, dy, rfl, hy.le e1, fun H2 e2 => ?_⟩
          have := k H2 (e1.trans e2)
          rw [show isPartD (.tuple [dx, dy]) = (isNameD dx && isSignsD dy) from rfl, c1] at this
          exact this
      · have c : ¬ xs.length = 2 := fun q => c (decide_eq_true (by rw [q]; rfl))
        have := k H (Same.refl H)
        rw [ha.length] at c
        have q : isPartD (.tuple ds) = false := by
          match ds, c with
          | [], _ => rfl
          | [_], _ => rfl
          | [_, _], c => exact (c rfl).elim
          | _ :: _ :: _ :: _, _ => rfl
        rw [q] at this
        exact this
    | _ => exact iteF (k _ (Same.refl H))
/-- a judge of parts -/
def spAre : Sp := fun vs H Q _ => ∃ (v : V) (d : PyData) (n : Nat), vs = [v, .int n] ∧ Dx H v d ∧ ∀ H', Same H H' → Q (.bl (arePartsD n d)) H'
abbrev s_p_parts : Stmt := top 15
theorem sc_p_parts : FnScope ["value", "least", "part"] ["value", "least"] (defScope s_p_parts) := ⟨rfl, rfl, rfl, by decide +kernel, rfl, by decide +kernel, by decide +kernel⟩
theorem cal_p_parts (T : Bs mg) (G : Gs mg) (D : Df K mg "are_parts" s_p_parts ["value", "least"]) (C_p_part : Cal P w K mg base 2 "is_part" (spIs isPartD)) : Cal P w K mg base 3 "are_parts" spAre := by
  refine D.cal sc_p_parts (fun vs H Q E h => ?_) (fun f cdv A outer s H vs Q E hr h => ?_)
  · obtain ⟨v, d, n, rfl, _⟩ := h
    rfl
  · obtain ⟨v, d, n, rfl, hd, k⟩ := h
    refine ⟨_, pss_one (ps_ret (pe_and (pb call_isi T.z_isinstance (pa_cons (pv 0) (pa_cons (pe_bltn (v := .ty "tuple") (u := .type "tuple") rfl T.z_tuple (by decide +kernel) rfl) pa_nil))) (pe_and (pe_chain op_le op_le (pv 1) (pb call_len3 T.z_len (pa_cons (pv 0) pa_nil)) (pe_gint G.g_MAX_STREAMS)) (pe_one (pb (cr_all rfl) T.z_all (pa_cons (pe_lc (own := [("part", 2)]) (te := (tCallS (spIs isPartD) (fun _ => E0) (tCons (tVar 2) tNil))) rfl sc_p_parts.nd (pi_tup (pv 0)) (blkOk_by (N := ["value", "least", "part"]) (sc := defScope s_p_parts) (by decide +kernel)) (fun _ _ _ _ _ => (pg_name (i := 2) sc_p_parts.nd rfl (Or.inl rfl))) (fun _ _ _ _ _ => pts_nil) (fun _ _ _ _ _ => (pc C_p_part hr (pa_cons (pv 2) pa_nil)))) pa_nil)))))), ?_⟩
    obtain ⟨nn, ty, h1, h2⟩ := tyx_of (K := K) hd
    refine ⟨_, rfl, v, .ty "tuple", _, _, _, rfl, .ty "tuple", ty, kit_ty h2, _, rfl, ?_⟩
    cases hd with
    | @tup a xs ds e ha =>
      refine iteT ?_
      have hlen := ha.length
      refine ⟨_, rfl, _, rfl, _, _, rfl, Of3.tup e, _, _, rfl, rfl, _, rfl, ?_⟩
      have nl : arePartsD n (.tuple ds) = (decide (n ≤ ds.length) && decide (ds.length ≤ 3) && ds.all isPartD) := rfl
      have bad : ∀ H', Same H H' → arePartsD n (.tuple ds) = false → Q (.bl false) H' := fun H' e q => by
        have := k H' e
        rw [q] at this
        exact this
      refine ite2 (fun c1 => ?_) (fun c1 => ?_)
      · have c1 : (n : Int) ≤ xs.length := of_decide_eq_true c1
        refine ⟨_, _, rfl, rfl, _, rfl, ?_⟩
        refine ite2 (fun c2 => ?_) (fun c2 => ?_)
        · have c2 : (xs.length : Int) ≤ 3 := of_decide_eq_true c2
          refine ⟨_, rfl, a, rfl, ⟨_, SqT.of e⟩, fun D hD => ?_⟩
          refine lc_tup (K := K) (a := a) (xs := xs) (fun i H1 => Same H H1 ∧ H1 D = some (.lst ((ds.take i).map fun d => V.bl (isPartD d)))) ?_ ?_ ?_ ?_
          · exact ⟨same_upd (Same.refl H) hD, upd_same⟩
          · rintro i H1 _ ⟨g1, _⟩
            exact SqT.of (g1 _ _ e)
          · rintro i x H1 hx ⟨g1, g2⟩
            obtain ⟨d, hd, hxd⟩ := ha.get hx
            refine ⟨rfl, _, rfl, x, d, rfl, hxd.le g1, fun H2 g3 => ⟨_, g3 _ _ g2, ?_, same_mut (g1.trans g3) hD, ?_⟩⟩
            · have h9 : (ds.take i).length ≤ ds.length := List.length_take_le' ..
              rw [List.length_map, sizeLine_eq]; omega
            · rw [upd_same, take_snoc hd, List.map_append]; rfl
          · rintro H1 ⟨g1, g2⟩
            refine ⟨D, ds.map isPartD, rfl, SqL.of ?_, ?_⟩
            · rw [g2, List.take_of_length_le (by omega), List.map_map]; rfl
            · have := k H1 g1
              rw [nl, decide_eq_true (show n ≤ ds.length by omega), decide_eq_true (show ds.length ≤ 3 by omega)] at this
              rw [List.all_map]
              exact this
        · have c2 : ¬ (xs.length : Int) ≤ 3 := fun q => c2 (decide_eq_true q)
          exact bad H (Same.refl H) (by rw [nl, decide_eq_false (show ¬ ds.length ≤ 3 by omega)]; simp)
      · have c1 : ¬ (n : Int) ≤ xs.length := fun q => c1 (decide_eq_true q)
        exact ⟨_, rfl, iteF (bad H (Same.refl H) (by rw [nl, decide_eq_false (show ¬ n ≤ ds.length by omega)]; simp))⟩
    | _ => exact iteF (k _ (Same.refl H))
/-- a judge of streams -/
def spStr : Sp := fun vs H Q _ => ∃ (u v : V) (d e : PyData), vs = [u, v] ∧ Dx H u d ∧ Dx H v e ∧ ∀ H', Same H H' → Q (.bl (areStreamsD d e)) H'
theorem part_shape {d : PyData} (h : isPartD d = true) : ∃ x y : Str, d = .tuple [.str x, .str y] ∧ nameL (cps x) = true ∧ signsL (cps y) = true := by
  match d, h with
  | .tuple [.str x, .str y], h =>
    have h : (nameL (cps x) && signsL (cps y)) = true := h
    rw [Bool.and_eq_true] at h
    exact ⟨x, y, rfl, h.1, h.2⟩
  | .tuple [.str _, .none], h => simp [isPartD, isNameD, isSignsD] at h
  | .tuple [.str _, .bool _], h => simp [isPartD, isNameD, isSignsD] at h
  | .tuple [.str _, .int _], h => simp [isPartD, isNameD, isSignsD] at h
  | .tuple [.str _, .list _], h => simp [isPartD, isNameD, isSignsD] at h
  | .tuple [.str _, .tuple _], h => simp [isPartD, isNameD, isSignsD] at h
  | .tuple [.str _, .dict _], h => simp [isPartD, isNameD, isSignsD] at h
  | .tuple [.none, _], h => simp [isPartD, isNameD, isSignsD] at h
  | .tuple [.bool _, _], h => simp [isPartD, isNameD, isSignsD] at h
  | .tuple [.int _, _], h => simp [isPartD, isNameD, isSignsD] at h
  | .tuple [.list _, _], h => simp [isPartD, isNameD, isSignsD] at h
  | .tuple [.tuple _, _], h => simp [isPartD, isNameD, isSignsD] at h
  | .tuple [.dict _, _], h => simp [isPartD, isNameD, isSignsD] at h
theorem parts_shape {n : Nat} {d : PyData} (h : arePartsD n d = true) : ∃ ds, d = .tuple ds ∧ n ≤ ds.length ∧ ds.length ≤ 3 ∧ ∀ e ∈ ds, isPartD e = true := by
  match d, h with
  | .tuple ds, h =>
    have h : (decide (n ≤ ds.length) && decide (ds.length ≤ 3) && ds.all isPartD) = true := h
    simp only [Bool.and_eq_true, decide_eq_true_eq, List.all_eq_true] at h
    exact ⟨ds, rfl, h.1.1, h.1.2, h.2⟩
end
end Fs
namespace Fs
open PySem PySem.Spec PyProof.Rows L2
theorem part_inv {H : Hp} {v : V} {d : PyData} (h : Dx H v d) (p : isPartD d = true) : ∃ (t : Addr) (x y : Str), v = .ref t ∧ d = .tuple [.str x, .str y] ∧ H t = some (.tup [.str x, .str y]) ∧ nameL (cps x) = true ∧ signsL (cps y) = true := by
  obtain ⟨x, y, rfl, h1, h2⟩ := part_shape p
  cases h with
  | @tup a xs _ e ha =>
    cases ha with
    | cons hx t =>
      cases t with
      | cons hy t =>
        cases t
        cases hx
        cases hy
        exact ⟨a, x, y, rfl, rfl, e, h1, h2⟩
theorem parts_inv {H : Hp} {v : V} {d : PyData} {n : Nat} (h : Dx H v d) (p : arePartsD n d = true) : ∃ (a : Addr) (xs : List V) (ds : List PyData), v = .ref a ∧ d = .tuple ds ∧ H a = some (.tup xs) ∧ DxAll H xs ds ∧ n ≤ ds.length ∧ ds.length ≤ 3 ∧ ∀ e ∈ ds, isPartD e = true := by
  obtain ⟨ds, rfl, h1, h2, h3⟩ := parts_shape p
  cases h with
  | @tup a xs _ e ha => exact ⟨a, xs, ds, rfl, rfl, e, ha, h1, h2, h3⟩
/-- the sum of two tuples: one of them, or a new one -/
theorem cat_get {K : PySem.W.Frag} {H : Hp} {a b : Addr} {xs ys : List V} {Q : VK} (ha : H a = some (.tup xs)) (hb : H b = some (.tup ys)) (hz : xs.length + ys.length ≤ sizeLine)
    (q : ∀ (t : Addr) (H' : Hp), Same H H' → H' t = some (.tup (xs ++ ys)) → Q (.ref t) H') : rCatA K (.ref a) (.ref b) H Q := by
  refine ⟨a, b, xs, ys, rfl, rfl, SqT.of ha, SqT.of hb, hz, fun e => ?_, fun _ e => ?_, fun _ _ p hp => ?_⟩
  · subst e; exact q b H (Same.refl H) hb
  · subst e; exact q a H (Same.refl H) (by rw [List.append_nil]; exact ha)
  · exact q p _ (same_upd (Same.refl H) hp) upd_same
section
variable {P : Program} {w : World} {K : PySem.W.Frag} {mg : Str → Option Value} {base : Heap}
theorem nodup_dec (xs : List Str) : decide (V.int ((distinct xs).length : Nat) = V.int (xs.length : Nat)) = decide xs.Nodup := by
  have h := distinct_iff xs
  by_cases c : xs.Nodup
  · rw [decide_eq_true c, decide_eq_true (by rw [h.mpr c])]
  · rw [decide_eq_false c, decide_eq_false (fun q => c (h.mp (by injection q with q; omega)))]
abbrev s_p_streams : Stmt := top 16
theorem sc_p_streams : FnScope ["sources", "sinks", "names", "name", "signs"] ["sources", "sinks"] (defScope s_p_streams) := ⟨rfl, rfl, rfl, by decide +kernel, rfl, by decide +kernel, by decide +kernel⟩
theorem cal_p_streams (T : Bs mg) (D : Df K mg "are_streams" s_p_streams ["sources", "sinks"]) (C_p_parts : Cal P w K mg base 3 "are_parts" spAre) : Cal P w K mg base 4 "are_streams" spStr := by
  refine D.cal sc_p_streams (fun vs H Q E h => ?_) (fun f cdv A outer s H vs Q E hr h => ?_)
  · obtain ⟨u, v, d, e, rfl, _⟩ := h
    rfl
  · obtain ⟨u, v, d, e, rfl, hd, he, k⟩ := h
    refine ⟨_, pss_cons (ps_if (PW.pt (pw_or (pt_not (pt_val (pc C_p_parts hr (pa_cons (pv 0) (pa_cons pe_int pa_nil))))) (pw_or1 (pt_not (pt_val (pc C_p_parts hr (pa_cons (pv 1) (pa_cons pe_int pa_nil))))))))
        (pss_one (ps_ret pe_bl))
        pss_nil)
      (pss_cons (ps_setLc (i := 2) (own := [("name", 3), ("signs", 4)]) (te := (tVar 3)) (g := gTup K 2 (gCons (gName 3) (gCons (gName 4) gNil))) rfl sc_p_streams.nd rfl rfl (sw_true rfl rfl rfl (by decide +kernel)) (pi_tup (pe_op op_catA (pv 0) (pv 1))) (blkOk_by (N := ["sources", "sinks", "names", "name", "signs"]) (sc := defScope s_p_streams) (by decide +kernel)) (fun _ _ _ _ _ => (pg_tup rfl (pgs_cons (pg_name (i := 3) sc_p_streams.nd rfl (Or.inl rfl)) (pgs_cons (pg_name (i := 4) sc_p_streams.nd rfl (Or.inl rfl)) pgs_nil)))) (fun _ _ _ _ _ => pts_nil) (fun _ _ _ _ _ => (pv 3)))
      (pss_one (ps_ret (pe_cmpR op_eq (pe_lenSetS T.z_len T.z_set (pv 2)) (pb call_len3 T.z_len (pa_cons (pv 2) pa_nil)) (nomark _))))), ?_⟩
    have bad : ∀ H', Same H H' → areStreamsD d e = false → Q (.bl false) H' := fun H' e q => by
      have := k H' e
      rw [q] at this
      exact this
    refine ⟨_, rfl, u, d, 1, rfl, hd, fun H1 e1 => ⟨_, rfl, ?_⟩⟩
    cases c1 : arePartsD 1 d with
    | false => exact iteT (iteT (bad H1 e1 (by unfold areStreamsD; rw [c1]; rfl)))
    | true =>
      refine iteF ?_
      refine ⟨_, rfl, v, e, 0, rfl, he.le e1, fun H2 e2 => ⟨_, rfl, ?_⟩⟩
      have e12 := e1.trans e2
      cases c2 : arePartsD 0 e with
      | false => exact iteT (bad H2 e12 (by unfold areStreamsD; rw [c1, c2]; rfl))
      | true =>
        refine iteF ?_
        obtain ⟨a, xs, ds, rfl, rfl, ea, hxs, l1, l2, p1⟩ := parts_inv hd c1
        obtain ⟨b, ys, es, rfl, rfl, eb, hys, m1, m2, p2⟩ := parts_inv he c2
        have lx := hxs.length
        have ly := hys.length
        have hall : DxAll H (xs ++ ys) (ds ++ es) := hxs.append hys
        have pall : ∀ z ∈ ds ++ es, isPartD z = true := fun z hz => (List.mem_append.mp hz).elim (p1 z) (p2 z)
        refine ⟨_, rfl, _, rfl, ?_⟩
        refine cat_get (e12 _ _ ea) (e12 _ _ eb) (by rw [sizeLine_eq]; omega) fun t H3 e3 ht => ?_
        have e13 := e12.trans e3
        refine ⟨t, rfl, ⟨_, SqT.of ht⟩, fun D hD => ?_⟩
        have hD0 := e13.free hD
        refine lc_tup (K := K) (a := t) (xs := xs ++ ys) (fun i H4 => Same H H4 ∧ H4 t = some (.tup (xs ++ ys)) ∧ H4 D = some (.lst (((ds ++ es).take i).map fun d => V.str (nameOf d)))) ?_ ?_ ?_ ?_
        · exact ⟨same_upd e13 hD, by rw [upd_ne (ne_of_none ht hD)]; exact ht, upd_same⟩
        · rintro i H4 _ ⟨_, h, _⟩
          exact SqT.of h
        · rintro i x H4 hx ⟨g1, g2, g3⟩
          obtain ⟨z, hz, hxz⟩ := hall.get hx
          obtain ⟨q, n, sg, rfl, rfl, hq, _, _⟩ := part_inv (hxz.le g1) (pall z (List.mem_of_getElem? hz))
          refine ⟨q, _, rfl, SqT.of hq, rfl, _, _, rfl, _, _, rfl, rfl, rfl, _, rfl, _, g3, ?_, same_mut g1 hD0, ?_, ?_⟩
          · have h9 : ((ds ++ es).take i).length ≤ (ds ++ es).length := List.length_take_le' ..
            rw [List.length_append] at h9
            rw [List.length_map, sizeLine_eq]; omega
          · rw [upd_ne (ne_of g2 g3 (by intro z; cases z))]; exact g2
          · rw [upd_same, take_snoc hz, List.map_append]; rfl
        · rintro H4 ⟨g1, g2, g3⟩
          have hn : H4 D = some (.lst (((ds ++ es).map nameOf).map V.str)) := by
            rw [g3, List.take_of_length_le (by rw [List.length_append, List.length_append]; omega), List.map_map]; rfl
          have hl : ((ds ++ es).map nameOf).length ≤ 6 := by rw [List.length_map, List.length_append]; omega
          refine ⟨_, rfl, D, (ds ++ es).map nameOf, rfl, SqL.of hn, by omega, ?_⟩
          refine ⟨_, rfl, _, _, rfl, Of3.lst hn, rfl, ?_⟩
          rw [List.length_map (as := (ds ++ es).map nameOf), nodup_dec]
          have := k H4 g1
          unfold areStreamsD at this
          rw [c1, c2, show namesD (.tuple ds) ++ namesD (.tuple es) = (ds ++ es).map nameOf from (List.map_append ..).symm] at this
          exact this
end
end Fs
namespace Fs
open PySem PySem.Spec PyProof.Rows L2
def lettersD (lo hi : Nat) : PyData → Bool
  | .str x => decide (lo ≤ x.length) && decide (x.length ≤ hi) && lowL (cps x)
  | _ => false
def spLet : Sp := fun vs H Q _ => ∃ (v : V) (d : PyData) (lo hi : Nat), vs = [v, .int lo, .int hi] ∧ hi ≤ 100 ∧ Dx H v d ∧ ∀ H', Same H H' → Q (.bl (lettersD lo hi d)) H'
theorem inV_S1 (c : Nat) (l : List Nat) : inV (S1 c) (l.map S1) = decide (c ∈ l) := by
  have h := inV_str (one1 c) (l.map one1)
  rw [← map_S1] at h
  refine h.trans ?_
  by_cases m : c ∈ l
  · rw [decide_eq_true m, decide_eq_true (List.mem_map.mpr ⟨c, m, rfl⟩)]
  · rw [decide_eq_false m, decide_eq_false]
    intro q
    obtain ⟨d, hd, e⟩ := List.mem_map.mp q
    have : cps (one1 d) = cps (one1 c) := congrArg cps e
    injection this with e1 _
    exact m (e1 ▸ hd)
theorem flat_S1 (l : List Nat) : (l.map S1).all flatV = true := by
  rw [map_S1]; exact all_flat _
theorem lowL_snoc (l : List Nat) (c : Nat) : lowL (l ++ [c]) = (lowL l && decide (c ∈ cps LET)) := by
  rw [in_let]
  unfold lowL
  rw [List.all_append]
  simp
theorem lowL_take {l : List Nat} {i : Nat} (h : lowL l = true) : lowL (l.take i) = true := by
  unfold lowL at h ⊢
  rw [List.all_eq_true] at h ⊢
  exact fun x hx => h x (List.mem_of_mem_take hx)
theorem asc_snoc : ∀ (l : List Nat) (c d : Nat), ascL (l ++ [c, d]) = (ascL (l ++ [c]) && decide (c < d))
  | [], c, d => by
    show (decide (c < d) && true) = (true && decide (c < d))
    rw [Bool.and_true, Bool.true_and]
  | [a], c, d => by
    show (decide (a < c) && (decide (c < d) && true)) = ((decide (a < c) && true) && decide (c < d))
    rw [Bool.and_true, Bool.and_true]
  | a :: b :: l, c, d => by
    have := asc_snoc (b :: l) c d
    show (decide (a < b) && ascL ((b :: l) ++ [c, d])) = ((decide (a < b) && ascL ((b :: l) ++ [c])) && decide (c < d))
    rw [this, Bool.and_assoc]
theorem asc_take : ∀ (l : List Nat) (i : Nat), ascL l = true → ascL (l.take i) = true
  | _, 0, _ => rfl
  | [], _ + 1, _ => rfl
  | [_], _ + 1, _ => by simp [ascL]
  | a :: _ :: _, 1, _ => rfl
  | a :: b :: r, i + 2, h => by
    have h : (decide (a < b) && ascL (b :: r)) = true := h
    rw [Bool.and_eq_true] at h
    have := asc_take (b :: r) (i + 1) h.2
    show (decide (a < b) && ascL ((b :: r).take (i + 1))) = true
    rw [h.1, this]; rfl
theorem cps_cut2 {z : Str} {i : Nat} {c d : Nat} (hc : (cps z)[i]? = some c) (hd : (cps z)[i + 1]? = some d) : cps (cutS z (some (i : Int)) (some ((i : Int) + 2))) = [c, d] := by
  show (((z.cps.toList.drop (HT.sIx z.length 0 (some (i : Int)))).take (HT.sIx z.length z.length (some ((i : Int) + 2)) - HT.sIx z.length 0 (some (i : Int)))).toArray).toList = _
  have e2 : ((i : Int) + 2) = ((i + 2 : Nat) : Int) := by omega
  have hl : i + 1 < (cps z).length := (List.getElem?_eq_some_iff.mp hd).1
  rw [← len_cps] at hl
  rw [e2, HT.sIx_nat, HT.sIx_nat, Nat.min_eq_left (by omega), Nat.min_eq_left (by omega)]
  show ((cps z).drop i).take (i + 2 - i) = [c, d]
  rw [show i + 2 - i = 2 by omega]
  have h0 : ((cps z).drop i)[0]? = some c := by rw [List.getElem?_drop]; exact hc
  have h1 : ((cps z).drop i)[1]? = some d := by rw [List.getElem?_drop]; exact hd
  match (cps z).drop i, h0, h1 with
  | _ :: _ :: _, h0, h1 =>
    simp only [List.getElem?_cons_zero, List.getElem?_cons_succ, Option.some.injEq] at h0 h1
    subst h0 h1
    rfl
theorem find_let {c : Nat} (h1 : 97 ≤ c) (h2 : c ≤ 122) : Txt.find LET ⟨#[c]⟩ = (c : Int) - 97 := by
  have : ∀ c : Nat, c < 123 → 97 ≤ c → Txt.find LET ⟨#[c]⟩ = (c : Int) - 97 := by decide +kernel
  exact this c (by omega) h1
section
variable {P : Program} {w : World} {K : PySem.W.Frag} {mg : Str → Option Value} {base : Heap}
abbrev s_j_letters : Stmt := top 28
theorem sc_j_letters : FnScope ["value", "least", "most", "letter"] ["value", "least", "most"] (defScope s_j_letters) := ⟨rfl, rfl, rfl, by decide +kernel, rfl, by decide +kernel, by decide +kernel⟩
theorem cal_j_letters (T : Bs mg) (D : Df K mg "_law_is_letters" s_j_letters ["value", "least", "most"]) : Cal P w K mg base 1 "_law_is_letters" spLet := by
  refine D.cal sc_j_letters (fun vs H Q E h => ?_) (fun f cdv A outer s H vs Q E hr h => ?_)
  · obtain ⟨v, d, lo, hi, rfl, _⟩ := h
    rfl
  · obtain ⟨v, d, lo, hi, rfl, hi100, hd, k⟩ := h
    refine ⟨_, pss_cons (ps_if (PW.pt (pw_or (pt_not (pt_val (pb call_isi T.z_isinstance (pa_cons (pv 0) (pa_cons (pe_bltn (v := .ty "str") (u := .type "str") rfl T.z_str (by decide +kernel) rfl) pa_nil))))) (pw_or (pt_cmpR op_lt (pb call_len3 T.z_len (pa_cons (pv 0) pa_nil)) (pv 1) (nomark _)) (pw_or1 (pt_cmpR op_gt (pb call_len3 T.z_len (pa_cons (pv 0) pa_nil)) (pv 2) (nomark _))))))
        (pss_one (ps_ret pe_bl))
        pss_nil)
      (pss_cons (ps_for PassesOwn.never rfl (pi_str (pv 0)) (pg_name (i := 3) sc_j_letters.nd rfl (Or.inl rfl))
        (pss_one (ps_if (pt_cmpR op_notIn_seq (pv 3) (pt (call_list3 rfl) T.z_list (pa_cons pe_str pa_nil)) (by rfl))
          (pss_one (ps_ret pe_bl))
          pss_nil)))
      (pss_one (ps_ret pe_bl))), ?_⟩
    obtain ⟨n, ty, h1, h2⟩ := tyx_of (K := K) hd
    refine ⟨_, rfl, v, .ty "str", _, _, _, rfl, .ty "str", ty, kit_ty h1, _, rfl, ?_⟩
    cases hd with
    | str z hz =>
      refine iteF ?_
      have hl : z.length ≤ 100000 := by have := hz.len; omega
      have hlen : ((cps z).map S1).length = z.length := by rw [List.length_map, ← len_cps]
      have nl : lettersD lo hi (.str z) = (decide (lo ≤ z.length) && decide (z.length ≤ hi) && lowL (cps z)) := rfl
      have bad : ∀ H', Same H H' → lettersD lo hi (.str z) = false → Q (.bl false) H' := fun H' e q => by
        have := k H' e
        rw [q] at this
        exact this
      refine ⟨_, rfl, _, _, rfl, Of3.str hl, _, rfl, _, _, rfl, rfl, _, rfl, ?_⟩
      rw [hlen]
      refine ite2 (fun c1 => ?_) (fun c1 => ?_)
      · have c1 : (z.length : Int) < lo := of_decide_eq_true c1
        exact bad H (Same.refl H) (by rw [nl, decide_eq_false (show ¬ lo ≤ z.length by omega)]; simp)
      · have c1 : ¬ (z.length : Int) < lo := fun q => c1 (decide_eq_true q)
        refine ⟨_, rfl, _, _, rfl, Of3.str hl, _, rfl, _, _, rfl, rfl, _, rfl, ?_⟩
        rw [hlen]
        refine ite2 (fun c2 => ?_) (fun c2 => ?_)
        · have c2 : (hi : Int) < z.length := of_decide_eq_true c2
          exact bad H (Same.refl H) (by rw [nl, decide_eq_false (show ¬ z.length ≤ hi by omega)]; simp)
        · have c2 : ¬ (hi : Int) < z.length := fun q => c2 (decide_eq_true q)
          refine ⟨_, rfl, z, rfl, for_it walk_str (fun i σ H1 => ∃ v3 : Option V, σ = [some (V.str z), some (.int lo), some (.int hi), v3] ∧ Same H H1 ∧ lowL ((cps z).take i) = true) ?_ ?_ ?_ ?_⟩
          · exact ⟨none, rfl, Same.refl H, rfl⟩
          · exact fun _ _ _ _ _ => trivial
          · rintro i x σ H1 H2 hi ⟨v3, rfl, e1, e2⟩ ⟨rfl, c, hc, rfl⟩
            have hc' : (cps z)[i]? = some c := by rw [← Array.getElem?_toList] at hc; exact hc
            refine ⟨_, rfl, _, (cps LET).map S1, rfl, Of3.str (z := LET) (by decide +kernel), fun p hp => ?_⟩
            refine ⟨p, _, rfl, .inl (SqL.of upd_same), rfl, flat_S1 _, _, rfl, ?_⟩
            show (if (!inV (S1 c) ((cps LET).map S1)) = true then _ else _)
            rw [inV_S1]
            cases c3 : decide (c ∈ cps LET) with
            | true =>
              refine iteF ?_
              exact ⟨_, rfl, same_upd e1 hp, by rw [take_snoc hc', lowL_snoc, e2, c3]; rfl⟩
            | false =>
              refine iteT ?_
              refine bad _ (same_upd e1 hp) ?_
              have : lowL (cps z) = false := by
                cases q : lowL (cps z) with
                | false => rfl
                | true =>
                  have := lowL_take (i := i + 1) q
                  rw [take_snoc hc', lowL_snoc, c3, Bool.and_false] at this
                  cases this
              rw [nl, this, Bool.and_false]
          · rintro σ H1 ⟨v3, rfl, e1, e2⟩
            have := k H1 e1
            rw [List.take_of_length_le (by rw [← len_cps]; exact Nat.le_refl _)] at e2
            rw [nl, decide_eq_true (show lo ≤ z.length by omega), decide_eq_true (show z.length ≤ hi by omega), e2] at this
            exact this
    | _ => exact iteT (k _ (Same.refl H))
abbrev s_j_name : Stmt := top 29
theorem sc_j_name : FnScope ["value"] ["value"] (defScope s_j_name) := ⟨rfl, rfl, rfl, by decide +kernel, rfl, by decide +kernel, by decide +kernel⟩
theorem cal_j_name (D : Df K mg "_law_is_name" s_j_name ["value"]) (C_j_letters : Cal P w K mg base 1 "_law_is_letters" spLet) : Cal P w K mg base 2 "_law_is_name" (spIs isNameD) := by
  refine D.cal sc_j_name (fun vs H Q E h => ?_) (fun f cdv A outer s H vs Q E hr h => ?_)
  · obtain ⟨v, d, rfl, _⟩ := h
    rfl
  · obtain ⟨v, d, rfl, hd, k⟩ := h
    refine ⟨_, pss_one (ps_ret (pe_and (pc C_j_letters hr (pa_cons (pv 0) (pa_cons pe_int (pa_cons pe_int pa_nil)))) (pe_one (pe_cmpR op_ne (pv 0) pe_str (nomark _))))), ?_⟩
    refine ⟨_, rfl, v, d, 1, 8, rfl, by decide, hd, fun H1 e1 => ⟨_, rfl, ?_⟩⟩
    have kk := k H1 e1
    cases hd with
    | str z hz =>
      have nl : isNameD (.str z) = (lettersD 1 8 (.str z) && !decide (cps z = [101, 110, 100])) := by
        have e : lettersD 1 8 (.str z) = (decide (1 ≤ z.length) && decide (z.length ≤ 8) && lowL (cps z)) := rfl
        rw [e, len_cps]; rfl
      rw [nl] at kk
      cases c : lettersD 1 8 (.str z) with
      | false =>
        rw [c] at kk
        exact iteF kk
      | true =>
        rw [c, Bool.true_and] at kk
        refine iteT ?_
        refine ⟨_, rfl, rfl, ?_⟩
        have e : decide (V.str z = V.str "end") = decide (cps z = [101, 110, 100]) := by
          by_cases q : cps z = [101, 110, 100]
          · rw [decide_eq_true q, decide_eq_true (congrArg V.str (cps_inj (q.trans (by decide +kernel))))]
          · rw [decide_eq_false q, decide_eq_false]
            intro h
            injection h with h
            exact q (by rw [h]; decide +kernel)
        rw [← e] at kk
        exact kk
    | _ => exact iteF kk
abbrev s_j_signs : Stmt := top 30
theorem sc_j_signs : FnScope ["value", "at", "spots", "letter"] ["value"] (defScope s_j_signs) := ⟨rfl, rfl, rfl, by decide +kernel, rfl, by decide +kernel, by decide +kernel⟩
theorem cal_j_signs (T : Bs mg) (D : Df K mg "_law_is_signs" s_j_signs ["value"]) (C_j_letters : Cal P w K mg base 1 "_law_is_letters" spLet) : Cal P w K mg base 2 "_law_is_signs" (spIs isSignsD) := by
  refine D.cal sc_j_signs (fun vs H Q E h => ?_) (fun f cdv A outer s H vs Q E hr h => ?_)
  · obtain ⟨v, d, rfl, _⟩ := h
    rfl
  · obtain ⟨v, d, rfl, hd, k⟩ := h
    refine ⟨_, pss_cons (ps_if (pt_not (pt_val (pc C_j_letters hr (pa_cons (pv 0) (pa_cons pe_int (pa_cons pe_int pa_nil))))))
        (pss_one (ps_ret pe_bl))
        pss_nil)
      (pss_cons (ps_for PassesOwn.never rfl (pi_range1 (by rfl) T.z_range (pa_cons (pe_op op_sub (pb call_len3 T.z_len (pa_cons (pv 0) pa_nil)) pe_int) pa_nil)) (pg_name (i := 1) sc_j_signs.nd rfl (Or.inl rfl))
        (pss_cons (ps_setLc (i := 2) (own := [("letter", 3)]) (te := (tBM K "str" qFind (tC (.str "abcdefghijklmnopqrstuvwxyz")) (tCons (tVar 3) tNil))) rfl sc_j_signs.nd rfl rfl (sw_true rfl rfl rfl (by decide +kernel)) (pi_str (pe_slice sl_str (pv 0) (po_some (pv 1)) (po_some (pe_op op_add (pv 1) pe_int)))) (blkOk_by (N := ["value", "at", "spots", "letter"]) (sc := defScope s_j_signs) (by decide +kernel)) (fun _ _ _ _ _ => (pg_name (i := 3) sc_j_signs.nd rfl (Or.inl rfl))) (fun _ _ _ _ _ => pts_nil) (fun _ _ _ _ _ => (pe_bm PySem.F.plainAttrs_str PySem.F.slot_str_find PySem.F.type_str_find mt_find pe_str (pa_cons (pv 3) pa_nil))))
        (pss_one (ps_if (pt_cmpR op_ge (pe_ix ix_list (pv 2) pe_int (fun _ _ => rfl)) (pe_ix ix_list (pv 2) pe_int (fun _ _ => rfl)) (nomark _))
          (pss_one (ps_ret pe_bl))
          pss_nil))))
      (pss_one (ps_ret pe_bl))), ?_⟩
    refine ⟨_, rfl, v, d, 1, 4, rfl, by decide, hd, fun H1 e1 => ⟨_, rfl, ?_⟩⟩
    have kk := k H1 e1
    cases hd with
    | str z hz =>
      have nl : isSignsD (.str z) = (lettersD 1 4 (.str z) && ascL (cps z)) := by
        have e : lettersD 1 4 (.str z) = (decide (1 ≤ z.length) && decide (z.length ≤ 4) && lowL (cps z)) := rfl
        rw [e, len_cps]; rfl
      rw [nl] at kk
      cases c : lettersD 1 4 (.str z) with
      | false =>
        rw [c] at kk
        exact iteT kk
      | true =>
        have c' : (decide (1 ≤ z.length) && decide (z.length ≤ 4) && lowL (cps z)) = true := c
        simp only [Bool.and_eq_true, decide_eq_true_eq] at c'
        obtain ⟨⟨c1, c2⟩, c3⟩ := c'
        have hl : z.length ≤ 100000 := by omega
        have hlen : ((cps z).map S1).length = z.length := by rw [List.length_map, ← len_cps]
        refine iteF ?_
        have hlen' : (List.map S1 z.cps.toList).length = z.length := hlen
        refine ⟨_, rfl, _, _, rfl, Of3.str hl, _, _, rfl, rfl, _, rfl, by omega, by omega, ?_⟩
        rw [show ((((cps z).map S1).length : Int) - 1).toNat = z.length - 1 by rw [hlen]; omega]
        refine for_range (fun i σ H2 => ∃ v1 v2 : Option V, σ = [some (V.str z), v1, v2, none] ∧ Same H H2 ∧ ascL ((cps z).take (i + 1)) = true) ?_ ?_ ?_
        · refine ⟨none, none, rfl, e1, ?_⟩
          match cps z with
          | [] => rfl
          | _ :: _ => rfl
        · rintro i σ H2 hi ⟨v1, v2, rfl, e2, asc⟩
          have l1 : i < (cps z).length := by rw [← len_cps]; omega
          have l2 : i + 1 < (cps z).length := by rw [← len_cps]; omega
          have hc := List.getElem?_eq_getElem l1
          have hd := List.getElem?_eq_getElem l2
          generalize (cps z)[i] = c at hc
          generalize (cps z)[i + 1] = d at hd
          have hcut := cps_cut2 hc hd
          refine ⟨_, rfl, _, rfl, _, rfl, _, rfl, _, _, rfl, rfl, _, rfl, z, rfl, by rw [sizeLine_eq]; omega, ?_⟩
          rw [show (0 + (i : Int)) = i by omega]
          generalize cutS z (some (i : Int)) (some ((i : Int) + 2)) = z1 at hcut
          refine ⟨z1, rfl, fun D hD => ?_⟩
          have low : ∀ x ∈ [c, d], 97 ≤ x ∧ x ≤ 122 := by
            intro x hx
            have : x ∈ cps z := by
              simp only [List.mem_cons, List.not_mem_nil, or_false] at hx
              rcases hx with rfl | rfl
              · exact List.mem_of_getElem? hc
              · exact List.mem_of_getElem? hd
            have := List.all_eq_true.mp c3 x this
            simpa using this
          refine lc_it (walk_str (z := z1)) (fun j H3 => Same H H3 ∧ H3 D = some (.lst (([c, d].take j).map fun (x : Nat) => V.int ((x : Int) - 97)))) ?_ ?_ ?_ ?_
          · exact ⟨same_upd e2 hD, upd_same⟩
          · exact fun _ _ _ _ => trivial
          · rintro j x H3 H4 hj ⟨g1, g2⟩ ⟨rfl, y, hy, rfl⟩
            have hy' : [c, d][j]? = some y := by rw [← Array.getElem?_toList] at hy; rw [← hcut]; exact hy
            obtain ⟨y1, y2⟩ := low y (List.mem_of_getElem? hy')
            refine ⟨rfl, rfl, _, rfl, LET, ⟨#[y]⟩, rfl, rfl, _, g2, ?_, same_mut g1 (e2.free hD), ?_⟩
            · have h9 : ([c, d].take j).length ≤ 2 := List.length_take_le' ..
              rw [List.length_map, sizeLine_eq]; omega
            · rw [upd_same, take_snoc hy', List.map_append, find_let y1 y2]; rfl
          · rintro H3 ⟨g1, g2⟩
            have hz1 : z1.cps.size = 2 := by
              have := congrArg List.length hcut
              rw [← len_cps] at this
              exact this
            rw [hz1] at g2
            have hcd : (cps z).take (i + 1) = (cps z).take i ++ [c] := take_snoc hc
            have hcd2 : (cps z).take (i + 1 + 1) = (cps z).take i ++ [c, d] := by rw [take_snoc hd, hcd, List.append_assoc]; rfl
            have asc2 := asc_snoc ((cps z).take i) c d
            rw [← hcd2, ← hcd, asc, Bool.true_and] at asc2
            refine ⟨_, rfl, D, _, 0, .int ((c : Int) - 97), rfl, rfl, SqL.of g2, rfl, _, rfl, D, _, 1, .int ((d : Int) - 97), rfl, rfl, SqL.of g2, rfl, _, _, rfl, rfl, _, rfl, ?_⟩
            refine ite2 (fun c4 => ?_) (fun c4 => ?_)
            · have c4 : (d : Int) - 97 ≤ (c : Int) - 97 := of_decide_eq_true c4
              have := k H3 g1
              have na : ascL (cps z) = false := by
                cases q : ascL (cps z) with
                | false => rfl
                | true =>
                  have := asc_take _ (i + 1 + 1) q
                  rw [asc2] at this
                  have := of_decide_eq_true this
                  omega
              rw [nl, na, Bool.and_false] at this
              exact this
            · have c4 : ¬ (d : Int) - 97 ≤ (c : Int) - 97 := fun q => c4 (decide_eq_true q)
              exact ⟨_, _, rfl, g1, by rw [asc2]; exact decide_eq_true (by omega)⟩
        · rintro σ H2 ⟨v1, v2, rfl, e2, asc⟩
          have := k H2 e2
          rw [List.take_of_length_le (by rw [← len_cps]; omega)] at asc
          rw [nl, c, asc] at this
          exact this
    | _ => exact iteT kk
end
end Fs
namespace Fs
open PySem PySem.Spec PyProof.Rows L2
theorem all_take {α : Type} {f : α → Bool} {l : List α} (i : Nat) (h : l.all f = true) : (l.take i).all f = true := by
  rw [List.all_eq_true] at h ⊢
  exact fun x hx => h x (List.mem_of_mem_take hx)
section
variable {P : Program} {w : World} {K : PySem.W.Frag} {mg : Str → Option Value} {base : Heap}
abbrev s_j_parts : Stmt := top 31
theorem sc_j_parts : FnScope ["value", "least", "part"] ["value", "least"] (defScope s_j_parts) := ⟨rfl, rfl, rfl, by decide +kernel, rfl, by decide +kernel, by decide +kernel⟩
theorem cal_j_parts (T : Bs mg) (D : Df K mg "_law_are_parts" s_j_parts ["value", "least"]) (C_j_name : Cal P w K mg base 2 "_law_is_name" (spIs isNameD)) (C_j_signs : Cal P w K mg base 2 "_law_is_signs" (spIs isSignsD)) : Cal P w K mg base 3 "_law_are_parts" spAre := by
  refine D.cal sc_j_parts (fun vs H Q E h => ?_) (fun f cdv A outer s H vs Q E hr h => ?_)
  · obtain ⟨v, d, n, rfl, _⟩ := h
    rfl
  · obtain ⟨v, d, n, rfl, hd, k⟩ := h
    refine ⟨_, pss_cons (ps_if (PW.pt (pw_or (pt_not (pt_val (pb call_isi T.z_isinstance (pa_cons (pv 0) (pa_cons (pe_bltn (v := .ty "tuple") (u := .type "tuple") rfl T.z_tuple (by decide +kernel) rfl) pa_nil))))) (pw_or (pt_cmpR op_lt (pb call_len3 T.z_len (pa_cons (pv 0) pa_nil)) (pv 1) (nomark _)) (pw_or1 (pt_cmpR op_gt (pb call_len3 T.z_len (pa_cons (pv 0) pa_nil)) pe_int (nomark _))))))
        (pss_one (ps_ret pe_bl))
        pss_nil)
      (pss_cons (ps_for PassesOwn.never rfl (pi_tup (pv 0)) (pg_name (i := 2) sc_j_parts.nd rfl (Or.inl rfl))
        (pss_cons (ps_if (PW.pt (pw_or (pt_not (pt_val (pb call_isi T.z_isinstance (pa_cons (pv 2) (pa_cons (pe_bltn (v := .ty "tuple") (u := .type "tuple") rfl T.z_tuple (by decide +kernel) rfl) pa_nil))))) (pw_or1 (pt_cmpR op_ne (pb call_len3 T.z_len (pa_cons (pv 2) pa_nil)) pe_int (nomark _)))))
          (pss_one (ps_ret pe_bl))
          pss_nil)
        (pss_one (ps_if (PW.pt (pw_or (pt_not (pt_val (pc C_j_name hr (pa_cons (pe_ix ix_3 (pv 2) pe_int (fun _ _ => rfl)) pa_nil)))) (pw_or1 (pt_not (pt_val (pc C_j_signs hr (pa_cons (pe_ix ix_3 (pv 2) pe_int (fun _ _ => rfl)) pa_nil)))))))
          (pss_one (ps_ret pe_bl))
          pss_nil))))
      (pss_one (ps_ret pe_bl))), ?_⟩
    obtain ⟨nn, ty, h1, h2⟩ := tyx_of (K := K) hd
    refine ⟨_, rfl, v, .ty "tuple", _, _, _, rfl, .ty "tuple", ty, kit_ty h2, _, rfl, ?_⟩
    cases hd with
    | @tup a xs ds e ha =>
      refine iteF ?_
      have hlen := ha.length
      have nl : arePartsD n (.tuple ds) = (decide (n ≤ ds.length) && decide (ds.length ≤ 3) && ds.all isPartD) := rfl
      have bad : ∀ H', Same H H' → arePartsD n (.tuple ds) = false → Q (.bl false) H' := fun H' e q => by
        have := k H' e
        rw [q] at this
        exact this
      refine ⟨_, rfl, _, _, rfl, Of3.tup e, _, rfl, _, _, rfl, rfl, _, rfl, ?_⟩
      refine ite2 (fun c1 => ?_) (fun c1 => ?_)
      · have c1 : (xs.length : Int) < n := of_decide_eq_true c1
        exact bad H (Same.refl H) (by rw [nl, decide_eq_false (show ¬ n ≤ ds.length by omega)]; simp)
      · have c1 : ¬ (xs.length : Int) < n := fun q => c1 (decide_eq_true q)
        refine ⟨_, rfl, _, _, rfl, Of3.tup e, _, _, rfl, rfl, _, rfl, ?_⟩
        refine ite2 (fun c2 => ?_) (fun c2 => ?_)
        · have c2 : (3 : Int) < xs.length := of_decide_eq_true c2
          exact bad H (Same.refl H) (by rw [nl, decide_eq_false (show ¬ ds.length ≤ 3 by omega)]; simp)
        · have c2 : ¬ (3 : Int) < xs.length := fun q => c2 (decide_eq_true q)
          refine ⟨_, rfl, a, rfl, ⟨_, SqT.of e⟩, for_tup (K := K) (a := a) (xs := xs) (fun i σ H1 => ∃ v2 : Option V, σ = [some (V.ref a), some (.int n), v2] ∧ Same H H1 ∧ (ds.take i).all isPartD = true) ?_ ?_ ?_ ?_⟩
          · exact ⟨none, rfl, Same.refl H, rfl⟩
          · rintro i σ H1 _ ⟨_, _, g1, _⟩
            exact SqT.of (g1 _ _ e)
          · rintro i x σ H1 hx ⟨v2, rfl, g1, g2⟩
            obtain ⟨d, hd, hxd⟩ := ha.get hx
            have hsnoc : (ds.take (i + 1)).all isPartD = isPartD d := by
              rw [take_snoc hd, List.all_append, g2, Bool.true_and]
              simp
            have badI : ∀ H', Same H H' → isPartD d = false → Q (.bl false) H' := fun H' e q => by
              refine bad H' e ?_
              have : ds.all isPartD = false := by
                cases c : ds.all isPartD with
                | false => rfl
                | true =>
                  have := all_take (i + 1) c
                  rw [hsnoc, q] at this
                  cases this
              rw [nl, this, Bool.and_false]
            have hd1 := hxd.le g1
            obtain ⟨nn, ty, h1, h2⟩ := tyx_of (K := K) hd1
            refine ⟨_, rfl, x, .ty "tuple", _, _, _, rfl, .ty "tuple", ty, kit_ty h2, _, rfl, ?_⟩
            cases hd1 with
            | @tup b ys es eb hb =>
              refine iteF ?_
              refine ⟨_, rfl, _, _, rfl, Of3.tup eb, rfl, _, rfl, ?_⟩
              refine ite2 (fun c3 => ?_) (fun c3 => ?_)
              · have c3 : ¬ es.length = 2 := fun q => by
                  have : decide (V.int (ys.length : Int) = V.int 2) = true := decide_eq_true (by rw [hb.length, q]; rfl)
                  rw [this] at c3
                  cases c3
                refine badI H1 g1 ?_
                match es, c3 with
                | [], _ => rfl
                | [_], _ => rfl
                | [_, _], c => exact (c rfl).elim
                | _ :: _ :: _ :: _, _ => rfl
              · have c3 : ys.length = 2 := by
                  by_cases q : V.int (ys.length : Int) = V.int 2
                  · injection q with q; omega
                  · rw [decide_eq_false q] at c3
                    exact (c3 rfl).elim
                obtain ⟨x1, x2, d1, d2, rfl, rfl, hx1, hx2⟩ := hb.two c3
                refine ⟨_, rfl, _, 0, x1, rfl, Of3.tup eb, by decide, rfl, x1, d1, rfl, hx1, fun H2 e2 => ⟨_, rfl, ?_⟩⟩
                have ip : isPartD (.tuple [d1, d2]) = (isNameD d1 && isSignsD d2) := rfl
                cases c4 : isNameD d1 with
                | false => exact iteT (badI H2 (g1.trans e2) (by rw [ip, c4]; rfl))
                | true =>
                  refine iteF ?_
                  refine ⟨_, rfl, _, 1, x2, rfl, Of3.tup (e2 _ _ eb), by decide, rfl, x2, d2, rfl, hx2.le e2, fun H3 e3 => ⟨_, rfl, ?_⟩⟩
                  cases c5 : isSignsD d2 with
                  | false => exact iteT (badI H3 ((g1.trans e2).trans e3) (by rw [ip, c4, c5]; rfl))
                  | true =>
                    refine iteF ?_
                    exact ⟨_, rfl, (g1.trans e2).trans e3, by rw [hsnoc, ip, c4, c5]; rfl⟩
            | _ => exact iteT (badI H1 g1 rfl)
          · rintro σ H1 ⟨v2, rfl, g1, g2⟩
            have := k H1 g1
            rw [List.take_of_length_le (by omega)] at g2
            rw [nl, decide_eq_true (show n ≤ ds.length by omega), decide_eq_true (show ds.length ≤ 3 by omega), g2] at this
            exact this
    | _ => exact iteT (k _ (Same.refl H))
abbrev s_j_streams : Stmt := top 32
theorem sc_j_streams : FnScope ["sources", "sinks", "names", "part"] ["sources", "sinks"] (defScope s_j_streams) := ⟨rfl, rfl, rfl, by decide +kernel, rfl, by decide +kernel, by decide +kernel⟩
theorem cal_j_streams (T : Bs mg) (D : Df K mg "_law_are_streams" s_j_streams ["sources", "sinks"]) (C_j_parts : Cal P w K mg base 3 "_law_are_parts" spAre) : Cal P w K mg base 4 "_law_are_streams" spStr := by
  refine D.cal sc_j_streams (fun vs H Q E h => ?_) (fun f cdv A outer s H vs Q E hr h => ?_)
  · obtain ⟨u, v, d, e, rfl, _⟩ := h
    rfl
  · obtain ⟨u, v, d, e, rfl, hd, he, k⟩ := h
    refine ⟨_, pss_cons (ps_if (PW.pt (pw_or (pt_not (pt_val (pc C_j_parts hr (pa_cons (pv 0) (pa_cons pe_int pa_nil))))) (pw_or1 (pt_not (pt_val (pc C_j_parts hr (pa_cons (pv 1) (pa_cons pe_int pa_nil))))))))
        (pss_one (ps_ret pe_bl))
        pss_nil)
      (pss_cons (ps_setLc (i := 2) (own := [("part", 3)]) (te := (tOp (rIx3 K) (tVar 3) (tC (.int 0)))) rfl sc_j_streams.nd rfl rfl (sw_true rfl rfl rfl (by decide +kernel)) (pi_tup (pe_op op_catA (pv 0) (pv 1))) (blkOk_by (N := ["sources", "sinks", "names", "part"]) (sc := defScope s_j_streams) (by decide +kernel)) (fun _ _ _ _ _ => (pg_name (i := 3) sc_j_streams.nd rfl (Or.inl rfl))) (fun _ _ _ _ _ => pts_nil) (fun _ _ _ _ _ => (pe_ix ix_3 (pv 3) pe_int (fun _ _ => rfl))))
      (pss_one (ps_ret (pe_cmpR op_eq (pe_lenSetS T.z_len T.z_set (pv 2)) (pb call_len3 T.z_len (pa_cons (pv 2) pa_nil)) (nomark _))))), ?_⟩
    have bad : ∀ H', Same H H' → areStreamsD d e = false → Q (.bl false) H' := fun H' e q => by
      have := k H' e
      rw [q] at this
      exact this
    refine ⟨_, rfl, u, d, 1, rfl, hd, fun H1 e1 => ⟨_, rfl, ?_⟩⟩
    cases c1 : arePartsD 1 d with
    | false => exact iteT (iteT (bad H1 e1 (by unfold areStreamsD; rw [c1]; rfl)))
    | true =>
      refine iteF ?_
      refine ⟨_, rfl, v, e, 0, rfl, he.le e1, fun H2 e2 => ⟨_, rfl, ?_⟩⟩
      have e12 := e1.trans e2
      cases c2 : arePartsD 0 e with
      | false => exact iteT (bad H2 e12 (by unfold areStreamsD; rw [c1, c2]; rfl))
      | true =>
        refine iteF ?_
        obtain ⟨a, xs, ds, rfl, rfl, ea, hxs, l1, l2, p1⟩ := parts_inv hd c1
        obtain ⟨b, ys, es, rfl, rfl, eb, hys, m1, m2, p2⟩ := parts_inv he c2
        have lx := hxs.length
        have ly := hys.length
        have hall : DxAll H (xs ++ ys) (ds ++ es) := hxs.append hys
        have pall : ∀ z ∈ ds ++ es, isPartD z = true := fun z hz => (List.mem_append.mp hz).elim (p1 z) (p2 z)
        refine ⟨_, rfl, _, rfl, ?_⟩
        refine cat_get (e12 _ _ ea) (e12 _ _ eb) (by rw [sizeLine_eq]; omega) fun t H3 e3 ht => ?_
        have e13 := e12.trans e3
        refine ⟨t, rfl, ⟨_, SqT.of ht⟩, fun D hD => ?_⟩
        have hD0 := e13.free hD
        refine lc_tup (K := K) (a := t) (xs := xs ++ ys) (fun i H4 => Same H H4 ∧ H4 t = some (.tup (xs ++ ys)) ∧ H4 D = some (.lst (((ds ++ es).take i).map fun d => V.str (nameOf d)))) ?_ ?_ ?_ ?_
        · exact ⟨same_upd e13 hD, by rw [upd_ne (ne_of_none ht hD)]; exact ht, upd_same⟩
        · rintro i H4 _ ⟨_, h, _⟩
          exact SqT.of h
        · rintro i x H4 hx ⟨g1, g2, g3⟩
          obtain ⟨z, hz, hxz⟩ := hall.get hx
          obtain ⟨q, n, sg, rfl, rfl, hq, _, _⟩ := part_inv (hxz.le g1) (pall z (List.mem_of_getElem? hz))
          refine ⟨rfl, _, rfl, _, 0, _, rfl, Of3.tup hq, by decide, rfl, _, g3, ?_, same_mut g1 hD0, ?_, ?_⟩
          · have h9 : ((ds ++ es).take i).length ≤ (ds ++ es).length := List.length_take_le' ..
            rw [List.length_append] at h9
            rw [List.length_map, sizeLine_eq]; omega
          · rw [upd_ne (ne_of g2 g3 (by intro z; cases z))]; exact g2
          · rw [upd_same, take_snoc hz, List.map_append]; rfl
        · rintro H4 ⟨g1, g2, g3⟩
          have hn : H4 D = some (.lst (((ds ++ es).map nameOf).map V.str)) := by
            rw [g3, List.take_of_length_le (by rw [List.length_append, List.length_append]; omega), List.map_map]; rfl
          have hl : ((ds ++ es).map nameOf).length ≤ 6 := by rw [List.length_map, List.length_append]; omega
          refine ⟨_, rfl, D, (ds ++ es).map nameOf, rfl, SqL.of hn, by omega, ?_⟩
          refine ⟨_, rfl, _, _, rfl, Of3.lst hn, rfl, ?_⟩
          rw [List.length_map (as := (ds ++ es).map nameOf), nodup_dec]
          have := k H4 g1
          unfold areStreamsD at this
          rw [c1, c2, show namesD (.tuple ds) ++ namesD (.tuple es) = (ds ++ es).map nameOf from (List.map_append ..).symm] at this
          exact this
end
end Fs
namespace Fs
open PySem PySem.Spec PyProof.Rows L2
/-! ### small texts of low codes -/
structure Lo (n : Nat) (y : Str) : Prop where
  len : y.length ≤ n
  cod : ∀ c ∈ cps y, c < 128
theorem pow16 : (16 : Nat) ^ 8 = 4294967296 := by decide
theorem Lo.tok {n : Nat} {y : Str} (h : Lo n y) (hn : n ≤ 9000) : TOk y := by
  refine ⟨?_, fun c hc => ?_⟩
  · have := h.len
    omega
  · have := h.cod c hc
    rw [pow16]
    omega
theorem cps_add (x y : Str) : cps (x ++ y) = cps x ++ cps y := by
  show (x.cps ++ y.cps).toList = _
  rw [Array.toList_append]
theorem Lo.add {n m : Nat} {x y : Str} (h : Lo n x) (g : Lo m y) : Lo (n + m) (x ++ y) := by
  refine ⟨?_, fun c hc => ?_⟩
  · have h1 := h.len
    have h2 := g.len
    rw [len_cps] at h1 h2 ⊢
    rw [cps_add, List.length_append]; omega
  · rw [cps_add] at hc
    exact (List.mem_append.mp hc).elim (h.cod c) (g.cod c)
theorem Lo.cut {n : Nat} {z : Str} (h : Lo n z) (a b : Option Int) : Lo n (cutS z a b) := by
  refine ⟨Nat.le_trans (cutS_length z a b) h.len, fun c hc => h.cod c ?_⟩
  have hc : c ∈ (((z.cps.toList.drop (HT.sIx z.length 0 a)).take (HT.sIx z.length z.length b - HT.sIx z.length 0 a)).toArray).toList := hc
  simp only [] at hc
  exact List.mem_of_mem_drop (List.mem_of_mem_take hc)
theorem Lo.sub {n : Nat} {y z : Str} (h : Lo n z) (l : y.length ≤ z.length) (c : ∀ c ∈ cps y, c ∈ cps z) : Lo n y := ⟨Nat.le_trans l h.len, fun d hd => h.cod d (c d hd)⟩
theorem Lo.upper {n : Nat} {z : Str} (h : Lo n z) : Lo n (Txt.upper z) := by
  have e := SX.upper_S (a := cps z) (List.all_eq_true.mpr fun c hc => decide_eq_true (h.cod c hc))
  rw [SX.S_tl] at e
  rw [e]
  refine ⟨?_, fun c hc => ?_⟩
  · have := h.len
    rw [len_cps] at this ⊢
    rw [cps_S, List.length_map]; exact this
  · rw [cps_S] at hc
    obtain ⟨d, hd, rfl⟩ := List.mem_map.mp hc
    have h1 := h.cod d hd
    have : ∀ d : Nat, d < 128 → PyProof.Rows.up1 d < 128 := by decide +kernel
    exact this d h1
theorem foldl_rep (a : Array Nat) : ∀ (n : Nat) (b : Array Nat) (c : Nat), c ∈ ((List.replicate n a).foldl (· ++ ·) b).toList → c ∈ b.toList ∨ c ∈ a.toList
  | 0, b, c, h => .inl h
  | n + 1, b, c, h => by
    have h : c ∈ ((List.replicate n a).foldl (· ++ ·) (b ++ a)).toList := h
    rcases foldl_rep a n (b ++ a) c h with h | h
    · rw [Array.toList_append] at h
      exact List.mem_append.mp h
    · exact .inr h
theorem Lo.mul {n m : Nat} {z : Str} {k : Int} (h : Lo n z) (hk : k ≤ (m : Int)) : Lo (n * m) (Txt.mul z k) := by
  refine ⟨len_mul_leN h.len hk, fun c hc => h.cod c ?_⟩
  unfold Txt.mul at hc
  split at hc
  · cases hc
  · split at hc
    · exact hc
    · rcases foldl_rep z.cps _ _ c hc with h | h
      · cases h
      · exact h
def rMulS : R2 := fun x y H Q => ∃ z n, x = .str z ∧ y = .int n ∧ z.length ≤ 100 ∧ 0 ≤ n ∧ n ≤ 10000 ∧ Q (.str (Txt.mul z n)) H
def tRevS (te : TE) : TE := fun σ H Q => te σ H fun x H1 => ∃ z, x = .str z ∧ z.length ≤ 100000 ∧ ∀ z' : Str, z'.length ≤ z.length → (∀ c ∈ cps z', c ∈ cps z) → Q (.str z') H1
section
variable {X : Cx}
theorem op_mulS : OpR X (binaryOp .Mult) rMulS := by
  intro pins s σ H x y v u Q I rx ry h
  obtain ⟨z, n, rfl, rfl, hz, h0, hn, q⟩ := h
  obtain ⟨t, rfl⟩ := rx
  obtain ⟨t', rfl⟩ := ry
  exact SB.mul (mulOk_of 100 10000 hz (by omega) (by omega) (by decide) (by decide)) fun t' k => ⟨.str _, H, I.tok _, ⟨_, rfl⟩, q⟩
theorem pe_revS {e : Expr} {te : TE} {k : Nat} {p1 p2 p3 pos : Pos} (he : PE X e te) : PE X (.Subscript e (.Slice none none (some (.UnaryOp .USub (.Constant (.int 1) k p1) p2)) p3) pos) (tRevS te) := by
  refine ⟨fun pins s σ H Q I h => ?_⟩
  refine Subscript_ (thn (he.run pins s σ H _ I h) fun v s1 ⟨x, H1, I1, r1, q1⟩ => ?_)
  obtain ⟨z, ex, hz, q⟩ := q1
  subst ex
  obtain ⟨t, rfl⟩ := r1
  have hst : PO X (some (.UnaryOp .USub (.Constant (.int 1) k p1) p2)) (tPart (tUn (rU fun i => .int (-i)) (tC (.int 1)))) := po_some (pe_un un_neg pe_int)
  refine wpAny_Slice (thn (po_none.run pins s1 σ H1 (fun o H2 => o = none ∧ H2 = H1) I1 ⟨rfl, rfl⟩) fun vl s2 ⟨l, H2, I2, pl, el, e2⟩ => ?_)
  subst el e2
  refine thn (po_none.run pins s2 σ H2 (fun o H3 => o = none ∧ H3 = H2) I2 ⟨rfl, rfl⟩) fun vu s3 ⟨u, H3, I3, pu, eu, e3⟩ => ?_
  subst eu e3
  refine thn (hst.run pins s3 σ H3 (fun o H4 => o = some (-1) ∧ H4 = H3) I3 ⟨1, rfl, -1, rfl, rfl, rfl⟩) fun vs s4 ⟨o, H4, I4, ps, eo, e4⟩ => ?_
  subst eo e4
  have I5 : Inv X pins σ H4 { s4 with heap := s4.heap.push { cls := .type "slice", data := .fields #[vl, vu, vs] } } := I4.kept (t' := s4.toks) fun b ob q => Heap.get?_push_of_some _ q
  clear hst
  cases pl
  cases pu
  cases ps with
  | int _ ts =>
    show wpAny (model X.prog X.w) X.A (subscriptTail e (.Slice none none (some (.UnaryOp .USub (.Constant (.int 1) k p1) p2)) p3) (.str z t) (.ref s4.heap.objs.size)) (EP X pins σ Q) X.xe { s4 with heap := s4.heap.push { cls := .type "slice", data := .fields #[.none, .none, .int (-1) ts] } }
    refine tail_any (ops := [.ref s4.heap.objs.size, .str z t]) (typeIs_str _ _ _) PySem.F.slot_str_getitem.lookup ?_ (by with_unfolding_all rfl)
    refine wpAny_getItem_str_slice (l := none) (u := none) (st := some (-1, ts)) ⟨_, Heap.get?_push_size _ rfl, rfl, rfl⟩ rfl ?_
    have e1 : slicePicked z none none (some (-1, ts)) = (List.range z.length).map fun k => z.length - 1 - k := PySem.W.krv_sliceRange z.length
    have e2 : sliceMade z t none none (some (-1, ts)) = .str ⟨((slicePicked z none none (some (-1, ts))).filterMap (z.cps[·]?)).toArray⟩ := rfl
    rw [e2, e1]
    have hl : (((List.range z.length).map fun k => z.length - 1 - k).filterMap (z.cps[·]?)).length ≤ z.length := by
      refine Nat.le_trans (List.length_filterMap_le ..) ?_
      rw [List.length_map, List.length_range]; exact Nat.le_refl _
    have hl2 : (⟨(((List.range z.length).map fun k => z.length - 1 - k).filterMap (z.cps[·]?)).toArray⟩ : Str).length ≤ z.length := by
      rw [len_cps]; exact hl
    refine ⟨Nat.le_trans hl2 (by rw [sizeLine_eq]; omega), .str _, H4, I5.tok _, ⟨_, rfl⟩, q _ hl2 fun c hc => ?_⟩
    have hc : c ∈ ((List.range z.length).map fun k => z.length - 1 - k).filterMap (z.cps[·]?) := by simpa using hc
    obtain ⟨i, _, hi⟩ := List.mem_filterMap.mp hc
    rw [← Array.getElem?_toList] at hi
    exact List.mem_of_getElem? hi
end
end Fs
namespace Fs
open PySem PySem.Spec PyProof.Rows L2
theorem dx_lo {H : Hp} {n : Nat} {y : Str} (h : Lo n y) (hn : n ≤ 9000) : ∃ d, Dx H (.str y) d ∧ Fit 9500 3 d := by
  refine ⟨_, .str y (h.tok hn), ?_, ?_⟩
  · have := h.len
    simp only [PyData.weight]
    show y.length ≤ 9500
    omega
  · simp only [PyData.depth]; omega
theorem lo_lit {y : Str} (h : (decide (y.length ≤ 9) && (cps y).all fun c => decide (c < 128)) = true) : Lo 9 y := by
  rw [Bool.and_eq_true, decide_eq_true_eq, List.all_eq_true] at h
  exact ⟨h.1, fun c hc => of_decide_eq_true (h.2 c hc)⟩
theorem fit_dict1 {z : Str} (h : z.cps.size ≤ 8) : Fit 9500 3 (.dict [(.str z, .int 1)]) := by
  refine ⟨?_, ?_⟩
  · have e : (PyData.int 1).weight ≤ 100 := by decide +kernel
    simp only [PyData.weight, PyData.weightKv] at e ⊢
    omega
  · simp only [PyData.depth, PyData.depthKv]
    omega
theorem keep {H : Hp} {p q : Addr} {o x : HO} (h : H q = some o) (hp : H p = none) : upd H p x q = some o := by rw [upd_ne (ne_of_none h hp)]; exact h
theorem upd_twice {H : Hp} {p : Addr} {x y : HO} : upd (upd H p x) p y = upd H p y := by
  funext b
  by_cases h : b = p
  · rw [h, upd_same, upd_same]
  · rw [upd_ne h, upd_ne h, upd_ne h]
theorem Of3.newH {K : PySem.W.Frag} {H : Hp} {a p : Addr} {l : List V} (h : H p = some (.lst l)) (hp : p ≠ a) : Of3 K (hid a H) (.ref p) l := .lst (by rw [hid_ne hp, h])
section
variable {P : Program} {w : World} {K : PySem.W.Frag} {mg : Str → Option Value} {base : Heap}
/-- a value near a name or signs -/
def spOdd : Sp := fun vs H Q _ => ∃ (a : Addr) (z : Str), vs = [.ref a, .str z] ∧ Pot H a ∧ Lo 8 z ∧ ∀ (v : V) (d : PyData) (H' : Hp), Dx (hid a H') v d → Fit 9500 3 d → Stp a H H' → Q v H'
abbrev s_odd_text : Stmt := top 33
theorem sc_odd_text : FnScope ["pot", "word", "at", "char", "some"] ["pot", "word"] (defScope s_odd_text) := ⟨rfl, rfl, rfl, by decide +kernel, rfl, by decide +kernel, by decide +kernel⟩
theorem cal_odd_text (T : Bs mg) (D : Df K mg "_law_odd_text" s_odd_text ["pot", "word"]) (C_dip : Cal P w K mg base 1 "_law_dip" spDip) (C_choose : Cal P w K mg base 2 "_law_choose" (spChoose K)) : Cal P w K mg base 3 "_law_odd_text" spOdd := by
  refine D.cal sc_odd_text (fun vs H Q E h => ?_) (fun f cdv A outer s H vs Q E hr h => ?_)
  · obtain ⟨a, z, rfl, _⟩ := h
    rfl
  · obtain ⟨a, z, rfl, hp, lz, k⟩ := h
    refine ⟨_, pss_cons (ps_par (i := 2) (j := 3) rfl sc_odd_text.nd rfl rfl (by decide) rfl rfl (pa_cons (pc C_dip hr (pa_cons (pv 0) (pa_cons (pe_op op_add (pb call_len3 T.z_len (pa_cons (pv 1) pa_nil)) pe_int) pa_nil))) (pa_cons (pc C_choose hr (pa_cons (pv 0) (pa_cons (pe_lstN (pa_cons pe_str (pa_cons pe_str (pa_cons pe_str (pa_cons pe_str (pa_cons pe_str (pa_cons pe_str (pa_cons pe_str (pa_cons pe_str (pa_cons pe_str (pa_cons pe_str (pa_cons pe_str pa_nil)))))))))))) pa_nil))) pa_nil)) (by rfl))
      (pss_cons (ps_set (i := 4) sc_odd_text.nd rfl (.inl rfl) (pe_lstN (pa_cons (pe_op op_add_str (pe_op op_add_str (pe_slice sl_str (pv 1) po_none (po_some (pv 2))) (pv 3)) (pe_slice sl_str (pv 1) (po_some (pv 2)) po_none)) (pa_cons (pe_op op_add_str (pe_slice sl_str (pv 1) po_none (po_some (pv 2))) (pe_slice sl_str (pv 1) (po_some (pe_op op_add (pv 2) pe_int)) po_none)) (pa_cons (pe_op op_add_str (pv 1) (pv 1)) (pa_cons (pe_revS (pv 1)) (pa_cons (pe_op op_mulS (pv 1) pe_int) (pa_cons (pe_upper (pv 1)) pa_nil))))))))
      (pss_cons (ps_set (i := 4) sc_odd_text.nd rfl (.inl rfl) (pe_op op_cat (pv 4) (pe_lstN (pa_cons pe_str (pa_cons pe_str (pa_cons pe_str (pa_cons pe_str (pa_cons pe_str (pa_cons pe_str (pa_cons pe_str (pa_cons pe_str (pa_cons pe_str (pa_cons pe_str (pa_cons pe_str (pa_cons pe_str (pa_cons pe_str pa_nil))))))))))))))))
      (pss_cons (ps_set (i := 4) sc_odd_text.nd rfl (.inl rfl) (pe_op op_cat (pv 4) (pe_lstN (pa_cons pe_non (pa_cons pe_int (pa_cons pe_bl (pa_cons (pe_tup pa_nil) (pa_cons (pe_lstN pa_nil) (pa_cons pe_dnewK (pa_cons (pe_tup (pa_cons (pv 1) pa_nil)) (pa_cons (pe_lstN (pa_cons (pv 1) pa_nil)) (pa_cons (pe_disp (pps_cons (pv 1) pe_int pps_nil) rfl rfl (by simp) (by decide)) (pa_cons (pe_tup (pa_cons pe_str (pa_cons pe_str pa_nil))) (pa_cons (pe_op op_mulS pe_str pe_int) (pa_cons (pe_op op_powR pe_int pe_int) (pa_cons pe_str pa_nil))))))))))))))))
      (pss_one (ps_ret (pc C_choose hr (pa_cons (pv 0) (pa_cons (pe_op op_cat (pv 4) (pe_lstN (pa_cons (pv 1) (pa_cons (pv 1) (pa_cons (pv 1) pa_nil))))) pa_nil)))))))), ?_⟩
    have hz8 := lz.len
    have hzl : z.length ≤ sizeLine := by rw [sizeLine_eq]; omega
    have hlen : ((cps z).map S1).length = z.length := by rw [List.length_map, ← len_cps]
    refine ⟨_, rfl, _, rfl, _, _, rfl, Of3.str (by omega), _, _, rfl, rfl, a, _, rfl, hp, by omega, by rw [show (List.map S1 z.cps.toList).length = z.length from hlen]; omega, fun r H1 r0 r1 st1 => ?_⟩
    refine ⟨_, rfl, by decide, fun p1 hp1 hs1 => ?_⟩
    have np1 := st1.pot.ne hp1
    refine ⟨a, _, _, rfl, st1.pot.upd np1, Of3.newL np1, by simp, by simp, fun v1 H2 hv1 st2 => ?_⟩
    have s2 : Stp a H H2 := (st1.new hp1).trans st2
    obtain ⟨ch, rfl, lch⟩ : ∃ ch : Str, v1 = .str ch ∧ Lo 9 ch := by
      simp only [List.mem_cons, List.not_mem_nil, or_false] at hv1
      rcases hv1 with rfl | rfl | rfl | rfl | rfl | rfl | rfl | rfl | rfl | rfl | rfl <;> exact ⟨_, rfl, lo_lit (by decide +kernel)⟩
    have hch := lch.len
    have t1 := (lz.cut none (some r)).add lch
    have t1' := t1.add (lz.cut (some r) none)
    have t2 := (lz.cut none (some r)).add (lz.cut (some (r + 1)) none)
    have t3 := lz.add lz
    refine ⟨_, _, rfl, ?_⟩
    refine ⟨_, rfl, _, rfl, _, rfl, z, rfl, hzl, _, rfl, _, _, rfl, rfl, Nat.le_trans (Nat.add_le_add (lz.cut _ _).len hch) (by decide), _, rfl, _, rfl, _, rfl, z, rfl, hzl, _, _, rfl, rfl, Nat.le_trans (Nat.add_le_add t1.len (lz.cut _ _).len) (by decide), ?_⟩
    refine ⟨_, rfl, _, rfl, _, rfl, z, rfl, hzl, _, rfl, _, rfl, _, _, rfl, rfl, _, rfl, z, rfl, hzl, _, _, rfl, rfl, Nat.le_trans (Nat.add_le_add (lz.cut _ _).len (lz.cut _ _).len) (by decide), ?_⟩
    refine ⟨_, rfl, _, rfl, _, _, rfl, rfl, Nat.le_trans (Nat.add_le_add hz8 hz8) (by decide), ?_⟩
    refine ⟨_, rfl, z, rfl, by omega, fun zr hr1 hr2 => ?_⟩
    have t4 := lz.sub hr1 hr2
    refine ⟨_, rfl, z, 9, rfl, rfl, by omega, by decide, by decide, ?_⟩
    have t5 := lz.mul (m := 9) (k := 9) (by decide)
    refine ⟨_, rfl, ⟨_, rfl⟩, z, rfl, rfl, by omega, ?_⟩
    have t6 := lz.upper
    generalize cutS z none (some r) ++ ch ++ cutS z (some r) none = w1 at t1'
    generalize cutS z none (some r) ++ cutS z (some (r + 1)) none = w2 at t2
    generalize z ++ z = w3 at t3
    generalize Txt.mul z 9 = w5 at t5
    generalize Txt.upper z = w6 at t6
    refine ⟨by show 6 ≤ sizeLine; decide, fun p2 hp2 hs2 => ?_⟩
    have s3 := s2.new (o := .lst [.str w1, .str w2, .str w3, .str zr, .str w5, .str w6]) hp2
    have h2 : upd H2 p2 (.lst [.str w1, .str w2, .str w3, .str zr, .str w5, .str w6]) p2 = _ := upd_same
    generalize upd H2 p2 (.lst [.str w1, .str w2, .str w3, .str zr, .str w5, .str w6]) = H3 at h2 s3
    refine ⟨_, rfl, by show 13 ≤ sizeLine; decide, fun p3 hp3 _ => ?_⟩
    have h2' := keep (x := .lst [V.str "", .str "end", .str "End", .str "en", .str "ends", .str "abcd", .str "abcde", .str "abcdefgh", .str "abcdefghi", .str "ba", .str "aa", .str "az", .str "z"]) h2 hp3
    refine ⟨p2, p3, _, _, rfl, rfl, h2', upd_same, by show 6 + 13 ≤ sizeLine; decide, fun p4 hp4 => ?_⟩
    have s4 := (s3.new hp3).new (o := .lst ([.str w1, .str w2, .str w3, .str zr, .str w5, .str w6] ++ [V.str "", .str "end", .str "End", .str "en", .str "ends", .str "abcd", .str "abcde", .str "abcdefgh", .str "abcdefghi", .str "ba", .str "aa", .str "az", .str "z"])) hp4
    have h4 : upd (upd H3 p3 (.lst [V.str "", .str "end", .str "End", .str "en", .str "ends", .str "abcd", .str "abcde", .str "abcdefgh", .str "abcdefghi", .str "ba", .str "aa", .str "az", .str "z"])) p4 (.lst ([.str w1, .str w2, .str w3, .str zr, .str w5, .str w6] ++ [V.str "", .str "end", .str "End", .str "en", .str "ends", .str "abcd", .str "abcde", .str "abcdefgh", .str "abcdefghi", .str "ba", .str "aa", .str "az", .str "z"])) p4 = _ := upd_same
    generalize upd (upd H3 p3 (.lst [V.str "", .str "end", .str "End", .str "en", .str "ends", .str "abcd", .str "abcde", .str "abcdefgh", .str "abcdefghi", .str "ba", .str "aa", .str "az", .str "z"])) p4 (.lst ([.str w1, .str w2, .str w3, .str zr, .str w5, .str w6] ++ [V.str "", .str "end", .str "End", .str "en", .str "ends", .str "abcd", .str "abcde", .str "abcdefgh", .str "abcdefghi", .str "ba", .str "aa", .str "az", .str "z"])) = H4 at h4 s4
    refine ⟨_, rfl, by show 0 ≤ sizeLine; decide, fun q1 hq1 => ?_⟩
    have s5 := s4.new (o := .tup []) hq1
    have h4 := keep (x := .tup []) h4 hq1
    have k1 : upd H4 q1 (.tup []) q1 = _ := upd_same
    generalize upd H4 q1 (.tup []) = H5 at s5 h4 k1
    refine ⟨by show 0 ≤ sizeLine; decide, fun q2 hq2 n2 => ?_⟩
    have s6 := s5.new (o := .lst []) hq2
    have h4 := keep (x := .lst []) h4 hq2
    have k1 := keep (x := .lst []) k1 hq2
    have k2 : upd H5 q2 (.lst []) q2 = _ := upd_same
    generalize upd H5 q2 (.lst []) = H6 at s6 h4 k1 k2
    refine fun q3 hq3 => ?_
    have s7 := s6.new (o := .dK []) hq3
    have h4 := keep (x := .dK []) h4 hq3
    have k1 := keep (x := .dK []) k1 hq3
    have k2 := keep (x := .dK []) k2 hq3
    have k3 : upd H6 q3 (.dK []) q3 = _ := upd_same
    generalize upd H6 q3 (.dK []) = H7 at s7 h4 k1 k2 k3
    refine ⟨_, rfl, by show 1 ≤ sizeLine; decide, fun q4 hq4 => ?_⟩
    have s8 := s7.new (o := .tup [.str z]) hq4
    have h4 := keep (x := .tup [.str z]) h4 hq4
    have k1 := keep (x := .tup [.str z]) k1 hq4
    have k2 := keep (x := .tup [.str z]) k2 hq4
    have k3 := keep (x := .tup [.str z]) k3 hq4
    have k4 : upd H7 q4 (.tup [.str z]) q4 = _ := upd_same
    generalize upd H7 q4 (.tup [.str z]) = H8 at s8 h4 k1 k2 k3 k4
    refine ⟨_, rfl, by show 1 ≤ sizeLine; decide, fun q5 hq5 n5 => ?_⟩
    have s9 := s8.new (o := .lst [.str z]) hq5
    have h4 := keep (x := .lst [.str z]) h4 hq5
    have k1 := keep (x := .lst [.str z]) k1 hq5
    have k2 := keep (x := .lst [.str z]) k2 hq5
    have k3 := keep (x := .lst [.str z]) k3 hq5
    have k4 := keep (x := .lst [.str z]) k4 hq5
    have k5 : upd H8 q5 (.lst [.str z]) q5 = _ := upd_same
    generalize upd H8 q5 (.lst [.str z]) = H9 at s9 h4 k1 k2 k3 k4 k5
    refine fun q6 hq6 => ⟨_, rfl, upd_same, [(.inr z, .int 1)], rfl, by show 1 ≤ 15; decide, ?_⟩
    rw [show mergeK [] [((.inr z : Key), V.int 1)] = [((.inr z : Key), V.int 1)] from rfl, upd_twice]
    have s10 := s9.new (o := .dK [(.inr z, .int 1)]) hq6
    have h4 := keep (x := .dK [(.inr z, .int 1)]) h4 hq6
    have k1 := keep (x := .dK [(.inr z, .int 1)]) k1 hq6
    have k2 := keep (x := .dK [(.inr z, .int 1)]) k2 hq6
    have k3 := keep (x := .dK [(.inr z, .int 1)]) k3 hq6
    have k4 := keep (x := .dK [(.inr z, .int 1)]) k4 hq6
    have k5 := keep (x := .dK [(.inr z, .int 1)]) k5 hq6
    have k6 : upd H9 q6 (.dK [(.inr z, .int 1)]) q6 = _ := upd_same
    generalize upd H9 q6 (.dK [(.inr z, .int 1)]) = H10 at s10 h4 k1 k2 k3 k4 k5 k6
    refine ⟨by show 2 ≤ sizeLine; decide, fun q7 hq7 => ?_⟩
    have s11 := s10.new (o := .tup [.str "a", .str "b"]) hq7
    have h4 := keep (x := .tup [.str "a", .str "b"]) h4 hq7
    have k1 := keep (x := .tup [.str "a", .str "b"]) k1 hq7
    have k2 := keep (x := .tup [.str "a", .str "b"]) k2 hq7
    have k3 := keep (x := .tup [.str "a", .str "b"]) k3 hq7
    have k4 := keep (x := .tup [.str "a", .str "b"]) k4 hq7
    have k5 := keep (x := .tup [.str "a", .str "b"]) k5 hq7
    have k6 := keep (x := .tup [.str "a", .str "b"]) k6 hq7
    have k7 : upd H10 q7 (.tup [.str "a", .str "b"]) q7 = _ := upd_same
    generalize upd H10 q7 (.tup [.str "a", .str "b"]) = H11 at s11 h4 k1 k2 k3 k4 k5 k6 k7
    refine ⟨"a", 9000, rfl, rfl, by decide, by decide, by decide, ?_⟩
    have tm := (lo_lit (y := "a") (by decide +kernel)).mul (m := 9000) (k := 9000) (by decide)
    have tl : Lo 9000 (Txt.mul "a" 9000) := ⟨len_mul_leN (L := 1) (N := 9000) (by decide +kernel) (by decide), tm.cod⟩
    generalize Txt.mul "a" 9000 = big at tl
    refine ⟨10, 60, rfl, rfl, by decide +kernel, ?_⟩
    refine ⟨by show 13 ≤ sizeLine; decide, fun q8 hq8 _ => ?_⟩
    obtain ⟨LC, hC⟩ : ∃ LC : List V, LC = [.non, .int 0, .bl true, .ref q1, .ref q2, .ref q3, .ref q4, .ref q5, .ref q6, .ref q7, .str big, .int (10 ^ (60 : Int).toNat), .str "az{"] := ⟨_, rfl⟩
    have s12 := s11.new (o := .lst LC) hq8
    have h4 := keep (x := .lst LC) h4 hq8
    have k1 := keep (x := .lst LC) k1 hq8
    have k2 := keep (x := .lst LC) k2 hq8
    have k3 := keep (x := .lst LC) k3 hq8
    have k4 := keep (x := .lst LC) k4 hq8
    have k5 := keep (x := .lst LC) k5 hq8
    have k6 := keep (x := .lst LC) k6 hq8
    have k7 := keep (x := .lst LC) k7 hq8
    have k8 : upd H11 q8 (.lst LC) q8 = _ := upd_same
    have e8 : upd H11 q8 (.lst LC) = upd H11 q8 (.lst [.non, .int 0, .bl true, .ref q1, .ref q2, .ref q3, .ref q4, .ref q5, .ref q6, .ref q7, .str big, .int (10 ^ (60 : Int).toNat), .str "az{"]) := by rw [hC]
    rw [e8] at s12 h4 k1 k2 k3 k4 k5 k6 k7 k8
    generalize upd H11 q8 (.lst [.non, .int 0, .bl true, .ref q1, .ref q2, .ref q3, .ref q4, .ref q5, .ref q6, .ref q7, .str big, .int (10 ^ (60 : Int).toNat), .str "az{"]) = H12 at s12 h4 k1 k2 k3 k4 k5 k6 k7 k8
    refine ⟨p4, q8, _, _, rfl, rfl, h4, k8, by rw [hC]; show 19 + 13 ≤ sizeLine; decide, fun q9 hq9 => ?_⟩
    obtain ⟨LD, hD⟩ : ∃ LD : List V, LD = [.str w1, .str w2, .str w3, .str zr, .str w5, .str w6] ++ [V.str "", .str "end", .str "End", .str "en", .str "ends", .str "abcd", .str "abcde", .str "abcdefgh", .str "abcdefghi", .str "ba", .str "aa", .str "az", .str "z"] ++ LC := ⟨_, rfl⟩
    rw [← hD]
    have s13 := s12.new (o := .lst LD) hq9
    have k1 := keep (x := .lst LD) k1 hq9
    have k2 := keep (x := .lst LD) k2 hq9
    have k3 := keep (x := .lst LD) k3 hq9
    have k4 := keep (x := .lst LD) k4 hq9
    have k5 := keep (x := .lst LD) k5 hq9
    have k6 := keep (x := .lst LD) k6 hq9
    have k7 := keep (x := .lst LD) k7 hq9
    have k9 : upd H12 q9 (.lst LD) q9 = _ := upd_same
    generalize upd H12 q9 (.lst LD) = H13 at s13 k1 k2 k3 k4 k5 k6 k7 k9
    refine ⟨_, rfl, _, rfl, _, rfl, _, rfl, _, rfl, by show 3 ≤ sizeLine; decide, fun q10 hq10 _ => ?_⟩
    have s14 := s13.new (o := .lst [.str z, .str z, .str z]) hq10
    have k1 := keep (x := .lst [.str z, .str z, .str z]) k1 hq10
    have k2 := keep (x := .lst [.str z, .str z, .str z]) k2 hq10
    have k3 := keep (x := .lst [.str z, .str z, .str z]) k3 hq10
    have k4 := keep (x := .lst [.str z, .str z, .str z]) k4 hq10
    have k5 := keep (x := .lst [.str z, .str z, .str z]) k5 hq10
    have k6 := keep (x := .lst [.str z, .str z, .str z]) k6 hq10
    have k7 := keep (x := .lst [.str z, .str z, .str z]) k7 hq10
    have k9 := keep (x := .lst [.str z, .str z, .str z]) k9 hq10
    have k10 : upd H13 q10 (.lst [.str z, .str z, .str z]) q10 = _ := upd_same
    generalize upd H13 q10 (.lst [.str z, .str z, .str z]) = H14 at s14 k1 k2 k3 k4 k5 k6 k7 k9 k10
    have lD : LD.length = 32 := by rw [hD, hC]; rfl
    refine ⟨q9, q10, _, _, rfl, rfl, k9, k10, by rw [lD]; show 32 + 3 ≤ sizeLine; decide, fun q11 hq11 => ?_⟩
    have s15 := s14.new (o := .lst (LD ++ [.str z, .str z, .str z])) hq11
    have k1 := keep (x := .lst (LD ++ [.str z, .str z, .str z])) k1 hq11
    have k2 := keep (x := .lst (LD ++ [.str z, .str z, .str z])) k2 hq11
    have k3 := keep (x := .lst (LD ++ [.str z, .str z, .str z])) k3 hq11
    have k4 := keep (x := .lst (LD ++ [.str z, .str z, .str z])) k4 hq11
    have k5 := keep (x := .lst (LD ++ [.str z, .str z, .str z])) k5 hq11
    have k6 := keep (x := .lst (LD ++ [.str z, .str z, .str z])) k6 hq11
    have k7 := keep (x := .lst (LD ++ [.str z, .str z, .str z])) k7 hq11
    have k11 : upd H14 q11 (.lst (LD ++ [.str z, .str z, .str z])) q11 = _ := upd_same
    have n11 := s14.pot.ne hq11
    generalize upd H14 q11 (.lst (LD ++ [.str z, .str z, .str z])) = H15 at s15 k1 k2 k3 k4 k5 k6 k7 k11
    refine ⟨a, _, _, rfl, s15.pot, Of3.newH k11 n11, by simp, by rw [List.length_append, lD]; show 32 + 3 ≤ 100000; decide, fun v H' hv st => ?_⟩
    have sf := s15.trans st
    have pn : ∀ {q : Addr} {o : HO}, H15 q = some o → (∀ xs, o ≠ .lst xs) → q ≠ a := fun h ho => by
      obtain ⟨p0, p1, p2, e, _⟩ := s15.pot.ex
      intro q
      rw [q, e] at h
      cases h
      exact ho _ rfl
    suffices h : ∃ d, Dx (hid a H') v d ∧ Fit 9500 3 d by
      obtain ⟨d, h1, h2⟩ := h
      exact k v d H' h1 h2 sf
    have a1 := s4.pot.ne hq1
    have a2 := s5.pot.ne hq2
    have a3 := s6.pot.ne hq3
    have a4 := s7.pot.ne hq4
    have a5 := s8.pot.ne hq5
    have a6 := s9.pot.ne hq6
    have a7 := s10.pot.ne hq7
    have f1 : hid a H' q1 = _ := (hid_ne a1).trans (st.get k1 a1)
    have f2 : hid a H' q2 = _ := (hid_ne a2).trans (st.get k2 a2)
    have f3 : hid a H' q3 = _ := (hid_ne a3).trans (st.get k3 a3)
    have f4 : hid a H' q4 = _ := (hid_ne a4).trans (st.get k4 a4)
    have f5 : hid a H' q5 = _ := (hid_ne a5).trans (st.get k5 a5)
    have f6 : hid a H' q6 = _ := (hid_ne a6).trans (st.get k6 a6)
    have f7 : hid a H' q7 = _ := (hid_ne a7).trans (st.get k7 a7)
    have zt := lz.tok (by decide)
    have zs : z.cps.size ≤ 8 := hz8
    have la := lo_lit (y := "a") (by decide +kernel)
    have lb := lo_lit (y := "b") (by decide +kernel)
    have sa : (Str.ofString "a").cps.size ≤ 1 := by decide +kernel
    have sb : (Str.ofString "b").cps.size ≤ 1 := by decide +kernel
    rw [hD, hC] at hv
    simp only [List.cons_append, List.nil_append, List.mem_cons, List.not_mem_nil, or_false] at hv
    rcases hv with rfl | rfl | rfl | rfl | rfl | rfl | rfl | rfl | rfl | rfl | rfl | rfl | rfl | rfl | rfl | rfl | rfl | rfl | rfl | rfl | rfl | rfl | rfl | rfl | rfl | rfl | rfl | rfl | rfl | rfl | rfl | rfl | rfl | rfl | rfl
    · exact dx_lo t1' (by decide)
    · exact dx_lo t2 (by decide)
    · exact dx_lo t3 (by decide)
    · exact dx_lo t4 (by decide)
    · exact dx_lo t5 (by decide)
    · exact dx_lo t6 (by decide)
    · exact dx_lo (lo_lit (by decide +kernel)) (by decide)
    · exact dx_lo (lo_lit (by decide +kernel)) (by decide)
    · exact dx_lo (lo_lit (by decide +kernel)) (by decide)
    · exact dx_lo (lo_lit (by decide +kernel)) (by decide)
    · exact dx_lo (lo_lit (by decide +kernel)) (by decide)
    · exact dx_lo (lo_lit (by decide +kernel)) (by decide)
    · exact dx_lo (lo_lit (by decide +kernel)) (by decide)
    · exact dx_lo (lo_lit (by decide +kernel)) (by decide)
    · exact dx_lo (lo_lit (by decide +kernel)) (by decide)
    · exact dx_lo (lo_lit (by decide +kernel)) (by decide)
    · exact dx_lo (lo_lit (by decide +kernel)) (by decide)
    · exact dx_lo (lo_lit (by decide +kernel)) (by decide)
    · exact dx_lo (lo_lit (by decide +kernel)) (by decide)
    · exact ⟨_, .non, by simp only [PyData.weight]; omega, by simp only [PyData.depth]; omega⟩
    · exact ⟨_, .int 0 (by decide +kernel) (by decide +kernel), by simp only [PyData.weight]; decide +kernel, by simp only [PyData.depth]; omega⟩
    · exact ⟨_, .bl true, by simp only [PyData.weight]; omega, by simp only [PyData.depth]; omega⟩
    · exact ⟨_, .tup f1 .nil, by simp only [PyData.weight, PyData.weightAll]; omega, by simp only [PyData.depth, PyData.depthAll]; omega⟩
    · exact ⟨_, .lst f2 n2 .nil, by simp only [PyData.weight, PyData.weightAll]; omega, by simp only [PyData.depth, PyData.depthAll]; omega⟩
    · exact ⟨_, .dct f3 .nil, by simp only [PyData.weight, PyData.weightKv]; omega, by simp only [PyData.depth, PyData.depthKv]; omega⟩
    · exact ⟨_, .tup f4 (.cons (.str z zt) .nil), by simp only [PyData.weight, PyData.weightAll]; omega, by simp only [PyData.depth, PyData.depthAll]; omega⟩
    · exact ⟨_, .lst f5 n5 (.cons (.str z zt) .nil), by simp only [PyData.weight, PyData.weightAll]; omega, by simp only [PyData.depth, PyData.depthAll]; omega⟩
    · exact ⟨_, .dct f6 (.cons zt (.int 1 (by decide +kernel) (by decide +kernel)) .nil), fit_dict1 zs⟩
    · exact ⟨_, .tup f7 (.cons (.str _ (la.tok (by decide))) (.cons (.str _ (lb.tok (by decide))) .nil)), by simp only [PyData.weight, PyData.weightAll]; omega, by simp only [PyData.depth, PyData.depthAll]; omega⟩
    · exact dx_lo tl (by decide)
    · exact ⟨_, .int _ (by decide +kernel) (by decide +kernel), by simp only [PyData.weight]; decide +kernel, by simp only [PyData.depth]; omega⟩
    · exact dx_lo (lo_lit (by decide +kernel)) (by decide)
    · exact dx_lo lz (by decide)
    · exact dx_lo lz (by decide)
    · exact dx_lo lz (by decide)
end
end Fs
namespace Fs
open PySem PySem.Spec PyProof.Rows L2
/-! ### small lists of data -/
structure FitA (n m : Nat) (ds : List PyData) : Prop where
  we : PyData.weightAll ds ≤ n
  de : PyData.depthAll ds ≤ m
theorem FitA.nil {n m : Nat} : FitA n m [] := ⟨by simp only [PyData.weightAll]; omega, by simp only [PyData.depthAll]; omega⟩
theorem FitA.cons {n k m : Nat} {d : PyData} {ds : List PyData} (h : Fit n m d) (g : FitA k m ds) : FitA (n + 1 + k) m (d :: ds) := by
  have h1 := h.we
  have h2 := h.de
  have g1 := g.we
  have g2 := g.de
  exact ⟨by simp only [PyData.weightAll]; omega, by simp only [PyData.depthAll]; omega⟩
theorem FitA.head {n m : Nat} {d : PyData} {ds : List PyData} (h : FitA n m (d :: ds)) : d.weight + 1 + PyData.weightAll ds ≤ n ∧ d.depth ≤ m ∧ PyData.depthAll ds ≤ m := by
  have h1 := h.we
  have h2 := h.de
  simp only [PyData.weightAll, PyData.depthAll] at h1 h2
  omega
theorem FitA.append {n k m : Nat} : ∀ {ds es : List PyData}, FitA n m ds → FitA k m es → FitA (n + k) m (ds ++ es)
  | [], es, _, g => ⟨by have := g.we; show PyData.weightAll es ≤ _; omega, g.de⟩
  | d :: ds, es, h, g => by
    obtain ⟨h1, h2, h3⟩ := h.head
    have i := FitA.append (n := n - (d.weight + 1)) (ds := ds) ⟨by omega, h3⟩ g
    have i1 := i.we
    have i2 := i.de
    rw [List.cons_append]
    exact ⟨by simp only [PyData.weightAll]; omega, by simp only [PyData.depthAll]; omega⟩
theorem FitA.take {n m : Nat} : ∀ {ds : List PyData} (i : Nat), FitA n m ds → FitA n m (ds.take i)
  | _, 0, _ => by rw [List.take_zero]; exact .nil
  | [], _ + 1, _ => by rw [List.take_nil]; exact .nil
  | d :: ds, i + 1, h => by
    obtain ⟨h1, h2, h3⟩ := h.head
    have j := FitA.take (n := n - (d.weight + 1)) (ds := ds) i ⟨by omega, h3⟩
    have i1 := j.we
    have i2 := j.de
    rw [List.take_succ_cons]
    exact ⟨by simp only [PyData.weightAll]; omega, by simp only [PyData.depthAll]; omega⟩
theorem FitA.drop {n m : Nat} : ∀ {ds : List PyData} (i : Nat), FitA n m ds → FitA n m (ds.drop i)
  | _, 0, h => h
  | [], _ + 1, _ => by rw [List.drop_nil]; exact .nil
  | d :: ds, i + 1, h => by
    obtain ⟨h1, h2, h3⟩ := h.head
    rw [List.drop_succ_cons]
    exact FitA.drop i ⟨by omega, h3⟩
theorem FitA.tup {n m : Nat} {ds : List PyData} (h : FitA n m ds) : Fit n (m + 1) (.tuple ds) := ⟨by have := h.we; simp only [PyData.weight]; omega, by have := h.de; simp only [PyData.depth]; omega⟩
theorem FitA.lst {n m : Nat} {ds : List PyData} (h : FitA n m ds) : Fit n (m + 1) (.list ds) := ⟨by have := h.we; simp only [PyData.weight]; omega, by have := h.de; simp only [PyData.depth]; omega⟩
theorem Fit.le {n m n' m' : Nat} {d : PyData} (h : Fit n m d) (hn : n ≤ n' := by omega) (hm : m ≤ m' := by omega) : Fit n' m' d := ⟨Nat.le_trans h.we hn, Nat.le_trans h.de hm⟩
theorem FitA.le {n m n' m' : Nat} {d : List PyData} (h : FitA n m d) (hn : n ≤ n' := by omega) (hm : m ≤ m' := by omega) : FitA n' m' d := ⟨Nat.le_trans h.we hn, Nat.le_trans h.de hm⟩
theorem fit_str {x : Str} {n m : Nat} (h : x.length ≤ n) : Fit n m (.str x) := ⟨by simp only [PyData.weight]; exact h, by simp only [PyData.depth]; omega⟩
theorem fit_non {n m : Nat} : Fit n m .none := ⟨by simp only [PyData.weight]; omega, by simp only [PyData.depth]; omega⟩
theorem fit_zero {n m : Nat} : Fit n m (.int 0) := ⟨by simp [PyData.weight], by simp only [PyData.depth]; omega⟩
theorem lo_name {x : Str} (h : nameL (cps x) = true) : Lo 8 x := by
  unfold nameL at h
  simp only [Bool.and_eq_true, decide_eq_true_eq] at h
  refine ⟨by rw [len_cps]; omega, fun c hc => ?_⟩
  have := List.all_eq_true.mp h.1.2 c hc
  simp only [Bool.and_eq_true, decide_eq_true_eq] at this
  omega
theorem lo_signs {x : Str} (h : signsL (cps x) = true) : Lo 8 x := by
  unfold signsL at h
  simp only [Bool.and_eq_true, decide_eq_true_eq] at h
  refine ⟨by rw [len_cps]; omega, fun c hc => ?_⟩
  have := List.all_eq_true.mp h.1.2 c hc
  simp only [Bool.and_eq_true, decide_eq_true_eq] at this
  omega
theorem fit_pair {x y : Str} (hx : Lo 8 x) (hy : Lo 8 y) : Fit 18 1 (.tuple [.str x, .str y]) :=
  (FitA.cons (fit_str hx.len) (FitA.cons (k := 0) (fit_str hy.len) .nil) : FitA (8 + 1 + (8 + 1 + 0)) 0 _).tup
theorem fit_parts : ∀ (ds : List PyData), (∀ e ∈ ds, isPartD e = true) → FitA (19 * ds.length) 1 ds
  | [], _ => .nil
  | d :: ds, h => by
    obtain ⟨x, y, rfl, h1, h2⟩ := part_shape (h d (List.mem_cons_self ..))
    have i := fit_parts ds fun e he => h e (List.mem_cons_of_mem _ he)
    exact ((FitA.cons (fit_pair (lo_name h1) (lo_signs h2)) i).le (by rw [List.length_cons]; omega) (Nat.le_refl _))
theorem DxAll.take {H : Hp} : ∀ {vs : List V} {ds : List PyData} (i : Nat), DxAll H vs ds → DxAll H (vs.take i) (ds.take i)
  | _, _, 0, _ => by rw [List.take_zero, List.take_zero]; exact .nil
  | _, _, _ + 1, .nil => .nil
  | _, _, i + 1, .cons h t => .cons h (DxAll.take i t)
theorem DxAll.drop {H : Hp} : ∀ {vs : List V} {ds : List PyData} (i : Nat), DxAll H vs ds → DxAll H (vs.drop i) (ds.drop i)
  | _, _, 0, h => h
  | _, _, _ + 1, .nil => .nil
  | _, _, i + 1, .cons h t => DxAll.drop i t
/-! ### rules -/
def rEqX : R2 := fun x y H Q => ∃ d e, Dx H x d ∧ Dx H y e ∧ SeqAt.shaped d = true ∧ SeqAt.shaped e = true ∧ Q (.bl (PyData.eqv d e)) H
def rList3N (K : PySem.W.Frag) : List V → Hp → VK → Prop := fun xs H Q => ∃ x l, xs = [x] ∧ Of3 K H x l ∧ ∀ p, H p = none → p ≠ sysModules → Q (.ref p) (upd H p (.lst l))
section
variable {X : Cx}
theorem op_eqX (hu : X.A.units + 64 < cLine) : OpR X (compareOp .Eq) rEqX := by
  intro pins s σ H x y v u Q I rx ry h
  obtain ⟨d, e, hd, he, sd, se, q⟩ := h
  obtain ⟨as, r1, _⟩ := Dx.reads I d x v hd rx
  obtain ⟨bs, r2, _⟩ := Dx.reads I e y u he ry
  exact SeqAt.compareEq_shaped r1 r2 sd se hu ⟨.bl _, H, I, rfl, q⟩
theorem call_list3N (hc : X.calm = true) : CallR X (.type "list") (rList3N X.K) := by
  intro pins s σ H xs us Q I rel h
  obtain ⟨x, l, ex, h3, q⟩ := h
  subst ex
  obtain ⟨u, eu, rx⟩ := vals1 rel
  subst eu
  have fin : ∀ (its : List Value), Vals l its → l.length ≤ sizeLine → ∀ (h' : Heap) (tk c' : Nat), (∀ b o', s.heap.get? b = some o' → h'.get? b = some o') →
      h'.get? s.heap.objs.size = some { cls := .type "list", dict := none, data := .seq its.toArray c', slots := #[] } → EP X pins σ Q (.ref s.heap.objs.size) { s with heap := h', toks := tk } := fun its r' hz h' tk c' kp e =>
    ⟨.ref s.heap.objs.size, _, I.laid (t' := tk) kp (Nat.le_refl _) (show ObjOk X.prog X.w _ h' _ (.lst l) from ⟨hz, its, c', r', e⟩), rfl, q _ (I.hok.fresh (Nat.le_refl _)) (Nat.ne_of_gt I.big)⟩
  rcases h3 with ⟨p, ep, hq | hq⟩ | ⟨z, ez, hz, el⟩
  · subst ep
    cases rx
    obtain ⟨its, r', pl, hz⟩ := I.list hq
    have hlen := r'.length
    obtain ⟨o, ho, hc, n, hd⟩ := pl.isList
    exact call_list_seq p (.inl rfl) ho hc hd (fun h' c' kp e => fin its r' hz h' s.toks c' kp e) (by simp only [List.size_toArray] <;> omega)
  · subst ep
    cases rx
    obtain ⟨its, r', pl, hz⟩ := I.tuple hq
    have hlen := r'.length
    obtain ⟨o, ho, hc, n, hd⟩ := pl
    exact call_list_seq p (.inr rfl) ho hc hd (fun h' c' kp e => fin its r' hz h' s.toks c' kp e) (by simp only [List.size_toArray] <;> omega)
  · subst ez el
    obtain ⟨t, et⟩ := rx
    subst et
    have hz' : z.cps.size ≤ sizeLine := Nat.le_trans hz (by decide)
    refine call_list_str (I.ok.hd hc) z t (fun h' tk acc c kp at_ of_ => ?_) hz'
    refine fin acc.toList ?_ (by rw [List.length_map, Array.length_toList]; exact hz') h' tk c kp (by simpa using at_)
    refine vals_of_at (by rw [List.length_map, Array.length_toList, Array.length_toList]; exact of_.1.symm) fun j x w h1 h2 => ?_
    rw [Array.getElem?_toList] at h2
    obtain ⟨c', t', hc', ew⟩ := of_.2 j w h2
    subst ew
    rw [List.getElem?_map, Array.getElem?_toList, hc'] at h1
    cases h1
    exact ⟨t', rfl⟩
end
/-- a slice of a tuple: itself or a new one -/
theorem sl_get {K : PySem.W.Frag} {H : Hp} {a : Addr} {xs : List V} {lo hi : Option Int} {Q : VK} (ha : H a = some (.tup xs)) (q : ∀ (t : Addr) (H' : Hp), Same H H' → H' t = some (.tup (cutV xs lo hi)) → Q (.ref t) H') : rSlA K (.ref a) lo hi H Q := by
  refine ⟨a, xs, rfl, SqT.of ha, fun e => ?_, fun _ p hp => q p _ (same_upd (Same.refl H) hp) upd_same⟩
  refine q a H (Same.refl H) ?_
  unfold cutV
  rw [e.1, e.2, List.drop_zero, Nat.sub_zero, List.take_of_length_le (Nat.le_refl _)]
  exact ha
/-- a new object -/
theorem nw {a p : Addr} {H : Hp} {o : HO} (hp : Pot H a) (h : H p = none) : Stp a H (upd H p o) ∧ upd H p o p = some o ∧ p ≠ a ∧ Same H (upd H p o) := ⟨(Stp.refl hp).new h, upd_same, hp.ne h, same_upd (Same.refl H) h⟩
end Fs
namespace Fs
open PySem PySem.Spec PyProof.Rows L2
theorem strOk_lo {n : Nat} {x : Str} (h : Lo n x) : PyData.strOk x = true := by
  unfold PyData.strOk
  rw [← Array.all_toList, List.all_eq_true]
  intro c hc
  have := h.cod c hc
  exact decide_eq_true (by omega)
theorem can_parts : ∀ (ds : List PyData), (∀ e ∈ ds, isPartD e = true) → PyData.canLayAll0 ds = true
  | [], _ => by simp only [PyData.canLayAll0]
  | d :: ds, h => by
    obtain ⟨x, y, rfl, h1, h2⟩ := part_shape (h d (List.mem_cons_self ..))
    have i := can_parts ds fun e he => h e (List.mem_cons_of_mem _ he)
    simp only [PyData.canLayAll0, PyData.canLay0, i, strOk_lo (lo_name h1), strOk_lo (lo_signs h2), Bool.and_self]
theorem shaped_parts {ds : List PyData} (h : ∀ e ∈ ds, isPartD e = true) : SeqAt.shaped (.tuple ds) = true := by
  unfold SeqAt.shaped
  have h1 := can_parts ds h
  have h2 := (fit_parts ds h).tup.de
  rw [decide_eq_true (by omega), Bool.and_true]
  simp only [PyData.canLay0, h1]
/-- text to text, small -/
def TKv (kv : Key × V) : Prop := ∃ x y : Str, kv = (.inr x, .str y) ∧ Lo 8 x ∧ Lo 8 y
theorem putK_tk {kvs : List (Key × V)} {x y : Str} (h : ∀ kv ∈ kvs, TKv kv) (hx : Lo 8 x) (hy : Lo 8 y) : ∀ kv ∈ putK kvs (.inr x : Key) (V.str y), TKv kv := by
  intro kv hkv
  unfold putK at hkv
  split at hkv
  · obtain ⟨kv0, h0, rfl⟩ := List.mem_map.mp hkv
    obtain ⟨x0, y0, rfl, g1, g2⟩ := h kv0 h0
    split
    · exact ⟨x0, y, rfl, g1, hy⟩
    · exact ⟨x0, y0, rfl, g1, g2⟩
  · rcases List.mem_append.mp hkv with q | q
    · exact h kv q
    · rw [List.mem_singleton.mp q]
      exact ⟨x, y, rfl, hx, hy⟩
theorem merge_tk : ∀ (more kvs : List (Key × V)), (∀ kv ∈ more, TKv kv) → (∀ kv ∈ kvs, TKv kv) → ∀ kv ∈ mergeK kvs more, TKv kv
  | [], _, _, h => h
  | m :: more, kvs, g, h => by
    obtain ⟨x, y, rfl, hx, hy⟩ := g m (List.mem_cons_self ..)
    exact merge_tk more _ (fun kv hkv => g kv (List.mem_cons_of_mem _ hkv)) (putK_tk h hx hy)
theorem tk_dx {H : Hp} : ∀ (l : List (Key × V)), (∀ kv ∈ l, TKv kv) → ∃ ds, DxKv H l ds ∧ PyData.weightKv ds ≤ 18 * l.length ∧ PyData.depthKv ds = 0
  | [], _ => ⟨[], .nil, by simp only [PyData.weightKv, List.length_nil]; omega, by simp only [PyData.depthKv]⟩
  | kv :: l, h => by
    obtain ⟨x, y, rfl, hx, hy⟩ := h kv (List.mem_cons_self ..)
    obtain ⟨ds, h1, h2, h3⟩ := tk_dx (H := H) l fun kv hkv => h kv (List.mem_cons_of_mem _ hkv)
    refine ⟨_, .cons (hx.tok (by decide)) (.str y (hy.tok (by decide))) h1, ?_, ?_⟩
    · have e1 : x.cps.size ≤ 8 := hx.len
      have e2 : y.cps.size ≤ 8 := hy.len
      simp only [PyData.weightKv, PyData.weight, List.length_cons]
      omega
    · simp only [PyData.depthKv, PyData.depth, h3]
      omega
theorem parts_addrs {H : Hp} : ∀ {xs : List V} {ds : List PyData}, DxAll H xs ds → (∀ e ∈ ds, isPartD e = true) → ∃ (as : List Addr) (kvs : List (Key × V)), xs = as.map V.ref ∧ Paired (fun p (kv : Key × V) => H p = some (.tup [kV kv.1, kv.2])) as kvs ∧ (∀ kv ∈ kvs, TKv kv) ∧ kvs.length = xs.length
  | _, _, .nil, _ => ⟨[], [], rfl, .nil, (fun _ h => nomatch h), rfl⟩
  | _, _, .cons (ds := ds) h t, g => by
    obtain ⟨as, kvs, rfl, h1, h2, h3⟩ := parts_addrs t fun e he => g e (List.mem_cons_of_mem _ he)
    obtain ⟨p, x, y, rfl, rfl, e, n1, n2⟩ := part_inv h (g _ (List.mem_cons_self ..))
    refine ⟨p :: as, (.inr x, .str y) :: kvs, rfl, .cons e h1, fun kv hkv => ?_, by rw [List.length_cons, List.length_cons, h3]⟩
    rcases List.mem_cons.mp hkv with rfl | hkv
    · exact ⟨x, y, rfl, lo_name n1, lo_signs n2⟩
    · exact h2 kv hkv
theorem dx_chars {H : Hp} : ∀ (l : List Nat), (∀ c ∈ l, c < 128) → ∃ ds, DxAll H (l.map S1) ds ∧ FitA (2 * l.length) 0 ds
  | [], _ => ⟨[], .nil, .nil⟩
  | c :: l, h => by
    obtain ⟨ds, h1, h2⟩ := dx_chars (H := H) l fun d hd => h d (List.mem_cons_of_mem _ hd)
    have lo : Lo 1 (one1 c) := ⟨Nat.le_refl 1, fun d hd => by
      have : d = c := List.mem_singleton.mp hd
      rw [this]; exact h c (List.mem_cons_self ..)⟩
    exact ⟨_, .cons (.str _ (lo.tok (by decide))) h1, (FitA.cons (fit_str lo.len) h2).le (by rw [List.length_cons]; omega) (Nat.le_refl _)⟩
theorem or_near {a t : Addr} {way : Int} {H : Hp} {ds : List PyData} {σ : L2.St} {G : Bool → Hp → Prop} (h3 : σ[3]? = some (some (.int way))) (h1 : σ[1]? = some (some (.ref t))) (hp : Pot H a) (dx : Dx H (.ref t) (.tuple ds))
    (prt : ∀ e ∈ ds, isPartD e = true) (k : ∀ (c : Bool) (H' : Hp), Stp a H H' → (c = false → ds ≠ []) → G c H') : tOr (tTest (tOp rEq (tVar 3) (tC (.int 0)))) (tTest (tOp rEqX (tVar 1) (tTup tNil))) σ H G := by
  refine ⟨_, h3, rfl, _, rfl, ?_⟩
  refine ite2 (fun _ => k true H (Stp.refl hp) (fun q => nomatch q)) (fun _ => ?_)
  refine ⟨_, h1, by show 0 ≤ sizeLine; decide, fun q hq => ?_⟩
  obtain ⟨st, e, _, sm⟩ := nw (o := .tup []) hp hq
  refine ⟨_, _, dx.le sm, .tup e .nil, shaped_parts prt, by decide +kernel, _, rfl, k _ _ st fun h z => ?_⟩
  rw [z] at h
  exact absurd h (by decide +kernel)
theorem Fit.of_le {n m : Nat} {d : PyData} (h : Fit n m d) : d.weight ≤ n ∧ d.depth ≤ m := ⟨h.we, h.de⟩
section
variable {P : Program} {w : World} {K : PySem.W.Frag} {mg : Str → Option Value} {base : Heap}
/-- a value near the sources or sinks -/
def spNear : Sp := fun vs H Q _ => ∃ (a : Addr) (v : V) (d : PyData), vs = [.ref a, v] ∧ Pot H a ∧ Dx (hid a H) v d ∧ arePartsD 0 d = true ∧ ∀ (v' : V) (d' : PyData) (H' : Hp), Dx (hid a H') v' d' → Fit 10000 8 d' → Stp a H H' → Q v' H'
abbrev s_near : Stmt := top 35
theorem sc_near : FnScope ["pot", "parts", "at", "way", "fresh", "name", "signs", "more", "some"] ["pot", "parts"] (defScope s_near) := ⟨rfl, rfl, rfl, by decide +kernel, rfl, by decide +kernel, by decide +kernel⟩
theorem cal_near (T : Bs mg) (D : Df K mg "_law_near" s_near ["pot", "parts"]) (C_dip : Cal P w K mg base 1 "_law_dip" spDip) (C_choose : Cal P w K mg base 2 "_law_choose" (spChoose K)) (C_name : Cal P w K mg base 3 "_law_name" spName)
    (C_signs : Cal P w K mg base 3 "_law_signs" spSigns) (C_odd_text : Cal P w K mg base 3 "_law_odd_text" spOdd) : Cal P w K mg base 4 "_law_near" spNear := by
  refine D.cal sc_near (fun vs H Q E h => ?_) (fun f cdv A outer s H vs Q E hr h => ?_)
  · obtain ⟨a, v, d, rfl, _⟩ := h
    rfl
  · obtain ⟨a, v, d, rfl, hp, hd, ap, k⟩ := h
    refine ⟨_, pss_cons (ps_par (i := 2) (j := 3) rfl sc_near.nd rfl rfl (by decide) rfl rfl (pa_cons (pc C_dip hr (pa_cons (pv 0) (pa_cons (pb (call_max2 rfl) T.z_max (pa_cons pe_int (pa_cons (pb call_len3 T.z_len (pa_cons (pv 1) pa_nil)) pa_nil))) pa_nil))) (pa_cons (pc C_dip hr (pa_cons (pv 0) (pa_cons pe_int pa_nil))) pa_nil)) (by rfl))
      (pss_cons (ps_set (i := 4) sc_near.nd rfl (.inl rfl) (pe_tup (pa_cons (pc C_name hr (pa_cons (pv 0) pa_nil)) (pa_cons (pc C_signs hr (pa_cons (pv 0) pa_nil)) pa_nil))))
      (pss_cons (ps_if (PW.pt (pw_or (pt_cmpR op_eq (pv 3) pe_int (nomark _)) (pw_or1 (pt_cmpR (op_eqX hr.rm.units) (pv 1) (pe_tup pa_nil) (nomark _)))))
        (pss_one (ps_ret (pc C_choose hr (pa_cons (pv 0) (pa_cons (pe_lstN (pa_cons pe_non (pa_cons pe_int (pa_cons (pe_tup pa_nil) (pa_cons (pe_lstN pa_nil) (pa_cons pe_dnewK (pa_cons (pt (call_list3N rfl) T.z_list (pa_cons (pv 1) pa_nil)) (pa_cons pe_str (pa_cons (pt (call_dictP rfl) T.z_dict (pa_cons (pt (call_list3N rfl) T.z_list (pa_cons (pv 1) pa_nil)) pa_nil)) (pa_cons (pe_tup (pa_cons (pv 1) pa_nil)) (pa_cons (pe_tup (pa_cons (pv 4) pa_nil)) (pa_cons (pv 1) pa_nil)))))))))))) pa_nil)))))
        pss_nil)
      (pss_cons (ps_asg (pe_ix ix_tup (pv 1) (pv 2) (fun _ _ => rfl)) (pg_tup rfl (pgs_cons (pg_name (i := 5) sc_near.nd rfl (Or.inl rfl)) (pgs_cons (pg_name (i := 6) sc_near.nd rfl (Or.inl rfl)) pgs_nil))))
      (pss_cons (ps_if (pt_cmpR op_eq (pv 3) pe_int (nomark _))
        (pss_one (ps_ret (pe_op op_catA (pe_slice sl_tupA (pv 1) po_none (po_some (pv 2))) (pe_slice sl_tupA (pv 1) (po_some (pe_op op_add (pv 2) pe_int)) po_none))))
        pss_nil)
      (pss_cons (ps_if (pt_cmpR op_eq (pv 3) pe_int (nomark _))
        (pss_cons (ps_set (i := 7) sc_near.nd rfl (.inl rfl) (pc C_choose hr (pa_cons (pv 0) (pa_cons (pe_lstN (pa_cons (pe_tup (pa_cons (pv 4) pa_nil)) (pa_cons (pe_tup (pa_cons (pv 4) (pa_cons (pv 4) pa_nil))) (pa_cons (pe_tup (pa_cons (pe_ix ix_tup (pv 1) (pv 2) (fun _ _ => rfl)) (pa_cons (pe_ix ix_tup (pv 1) (pv 2) (fun _ _ => rfl)) pa_nil))) pa_nil)))) pa_nil))))
        (pss_one (ps_ret (pe_op op_catA (pe_op op_catA (pe_slice sl_tupA (pv 1) po_none (po_some (pv 2))) (pv 7)) (pe_slice sl_tupA (pv 1) (po_some (pv 2)) po_none)))))
        pss_nil)
      (pss_cons (ps_if (pt_cmpR op_eq (pv 3) pe_int (nomark _))
        (pss_one (ps_ret (pe_op op_catA (pe_op op_catA (pe_slice sl_tupA (pv 1) po_none (po_some (pv 2))) (pe_tup (pa_cons (pe_tup (pa_cons (pc C_odd_text hr (pa_cons (pv 0) (pa_cons (pv 5) pa_nil))) (pa_cons (pv 6) pa_nil))) pa_nil))) (pe_slice sl_tupA (pv 1) (po_some (pe_op op_add (pv 2) pe_int)) po_none))))
        pss_nil)
      (pss_cons (ps_if (pt_cmpR op_eq (pv 3) pe_int (nomark _))
        (pss_one (ps_ret (pe_op op_catA (pe_op op_catA (pe_slice sl_tupA (pv 1) po_none (po_some (pv 2))) (pe_tup (pa_cons (pe_tup (pa_cons (pv 5) (pa_cons (pc C_odd_text hr (pa_cons (pv 0) (pa_cons (pv 6) pa_nil))) pa_nil))) pa_nil))) (pe_slice sl_tupA (pv 1) (po_some (pe_op op_add (pv 2) pe_int)) po_none))))
        pss_nil)
      (pss_cons (ps_set (i := 8) sc_near.nd rfl (.inl rfl) (pe_lstN (pa_cons (pe_lstN (pa_cons (pv 5) (pa_cons (pv 6) pa_nil))) (pa_cons (pe_tup (pa_cons (pv 5) pa_nil)) (pa_cons (pe_tup (pa_cons (pv 5) (pa_cons (pv 6) (pa_cons (pv 6) pa_nil)))) (pa_cons (pe_tup (pa_cons (pv 6) (pa_cons (pv 5) pa_nil))) (pa_cons pe_non (pa_cons (pv 5) (pa_cons (pe_disp (pps_cons (pv 5) (pv 6) pps_nil) rfl rfl (by simp) (by decide)) (pa_cons (pe_tup (pa_cons (pv 5) (pa_cons (pe_tup (pa_cons (pv 6) pa_nil)) pa_nil))) pa_nil))))))))))
      (pss_cons (ps_set (i := 8) sc_near.nd rfl (.inl rfl) (pe_op op_cat (pv 8) (pe_lstN (pa_cons (pe_tup (pa_cons (pv 5) (pa_cons (pv 6) pa_nil))) (pa_cons (pv 4) (pa_cons (pe_tup (pa_cons (pv 5) (pa_cons (pt (call_list3N rfl) T.z_list (pa_cons (pv 6) pa_nil)) pa_nil))) (pa_cons (pe_tup pa_nil) pa_nil)))))))
      (pss_one (ps_ret (pe_op op_catA (pe_op op_catA (pe_slice sl_tupA (pv 1) po_none (po_some (pv 2))) (pe_tup (pa_cons (pc C_choose hr (pa_cons (pv 0) (pa_cons (pv 8) pa_nil))) pa_nil))) (pe_slice sl_tupA (pv 1) (po_some (pe_op op_add (pv 2) pe_int)) po_none))))))))))))), ?_⟩
    obtain ⟨t, xs, ds, rfl, rfl, et, hxs, _, l3, prt⟩ := parts_inv hd ap
    have ta := (hid_some et).1
    have et0 := (hid_some et).2
    have lx := hxs.length
    have fds : FitA 57 1 ds := (fit_parts ds prt).le (by omega) (Nat.le_refl _)
    refine ⟨_, rfl, _, rfl, _, _, rfl, Of3.tup et0, _, _, rfl, a, _, rfl, hp, ?_, ?_, fun r H1 r0 r1 st1 => ?_⟩
    · split <;> omega
    · split <;> omega
    refine ⟨_, rfl, a, 8, rfl, st1.pot, by decide, by decide, fun way H2 w0 w1 st2 => ⟨_, _, rfl, ?_⟩⟩
    have s2 := st1.trans st2
    refine ⟨_, rfl, a, rfl, s2.pot, fun fn H3 hfn st3 => ⟨_, rfl, a, rfl, (s2.trans st3).pot, fun fs H4 hfs st4 => ⟨by show 2 ≤ sizeLine; decide, fun fr hfr => ?_⟩⟩⟩
    have s4 := (s2.trans st3).trans st4
    obtain ⟨st5, f5, fra, _⟩ := nw (o := .tup [.str fn, .str fs]) s4.pot hfr
    have s5 := s4.trans st5
    generalize upd H4 fr (.tup [.str fn, .str fs]) = H5 at f5 st5 s5
    have lfn := lo_name hfn
    have lfs := lo_signs hfs
    have dfr : Dx (hid a H5) (.ref fr) (.tuple [.str fn, .str fs]) := .tup (by rw [hid_ne fra]; exact f5) (.cons (.str fn (lfn.tok (by decide))) (.cons (.str fs (lfs.tok (by decide))) .nil))
    have ffr := fit_pair lfn lfs
    have et5 := s5.same t _ et
    have et50 := (hid_some et5).2
    have hx5 := hxs.le s5.same
    refine or_near rfl rfl s5.pot (.tup et50 (hx5.le (hid_le a H5))) prt fun c H6 st6 hne => ?_
    have s6 := s5.trans st6
    have et6 := s6.same t _ et
    have et60 := (hid_some et6).2
    have dfr6 := dfr.le st6.same
    have ff6 := st6.get f5 fra
    cases c with
    | true =>
      refine iteT ?_
      refine ⟨_, rfl, by show 0 ≤ sizeLine; decide, fun q1 hq1 => ?_⟩
      obtain ⟨u1, k1, a1, _⟩ := nw (o := .tup []) s6.pot hq1
      have s7 := s6.trans u1
      generalize upd H6 q1 (.tup []) = H7 at u1 s7 k1
      refine ⟨by show 0 ≤ sizeLine; decide, fun q2 hq2 n2 => ?_⟩
      obtain ⟨u2, k2, a2, _⟩ := nw (o := .lst []) s7.pot hq2
      have s8 := s7.trans u2
      generalize upd H7 q2 (.lst []) = H8 at u2 s8 k2
      refine fun q3 hq3 => ?_
      obtain ⟨u3, k3, a3, _⟩ := nw (o := .dK []) s8.pot hq3
      have s9 := s8.trans u3
      generalize upd H8 q3 (.dK []) = H9 at u3 s9 k3
      refine ⟨_, rfl, _, xs, rfl, Of3.tup (hid_some (s9.same t _ et)).2, fun q4 hq4 n4 => ?_⟩
      obtain ⟨u4, k4, a4, _⟩ := nw (o := .lst xs) s9.pot hq4
      have s10 := s9.trans u4
      generalize upd H9 q4 (.lst xs) = H10 at u4 s10 k4
      refine ⟨_, rfl, _, xs, rfl, Of3.tup (hid_some (s10.same t _ et)).2, fun q5 hq5 n5 => ?_⟩
      obtain ⟨u5, k5, a5, _⟩ := nw (o := .lst xs) s10.pot hq5
      have s11 := s10.trans u5
      generalize upd H10 q5 (.lst xs) = H11 at u5 s11 k5
      obtain ⟨as, kvs, ex, pr, tk, lk⟩ := parts_addrs (hxs.le s11.same) prt
      refine ⟨q5, as, kvs, rfl, SqL.of (by rw [k5, ex]), L2.Paired.mapP pr fun p kv h => SqT.of (hid_some h).2, fun q6 hq6 => ?_⟩
      obtain ⟨u6, k6, a6, _⟩ := nw (o := .dK (mergeK [] kvs)) s11.pot hq6
      have s12 := s11.trans u6
      have tm := merge_tk kvs [] tk (fun _ h => nomatch h)
      have lm := length_mergeK kvs []
      generalize mergeK [] kvs = mk at u6 s12 k6 tm lm
      generalize upd H11 q6 (.dK mk) = H12 at u6 s12 k6
      refine ⟨_, rfl, by show 1 ≤ sizeLine; decide, fun q7 hq7 => ?_⟩
      obtain ⟨u7, k7, a7, _⟩ := nw (o := .tup [.ref t]) s12.pot hq7
      have s13 := s12.trans u7
      generalize upd H12 q7 (.tup [.ref t]) = H13 at u7 s13 k7
      refine ⟨_, rfl, by show 1 ≤ sizeLine; decide, fun q8 hq8 => ?_⟩
      obtain ⟨u8, k8, a8, _⟩ := nw (o := .tup [.ref fr]) s13.pot hq8
      have s14 := s13.trans u8
      generalize upd H13 q8 (.tup [.ref fr]) = H14 at u8 s14 k8
      refine ⟨_, rfl, by show 11 ≤ sizeLine; decide, fun q9 hq9 _ => ?_⟩
      obtain ⟨u9, k9, a9, _⟩ := nw (o := .lst [.non, .int 0, .ref q1, .ref q2, .ref q3, .ref q4, .str "ab", .ref q6, .ref q7, .ref q8, .ref t]) s14.pot hq9
      have s15 := s14.trans u9
      generalize upd H14 q9 (.lst [.non, .int 0, .ref q1, .ref q2, .ref q3, .ref q4, .str "ab", .ref q6, .ref q7, .ref q8, .ref t]) = H15 at u9 s15 k9
      refine ⟨a, _, _, rfl, s15.pot, Of3.newH k9 a9, by simp, by show 11 ≤ 100000; decide, fun v H' hv st => ?_⟩
      have sf := s15.trans st
      have w9 := u9.trans st
      have w8 := u8.trans w9
      have w7 := u7.trans w8
      have w6 := u6.trans w7
      have w5 := u5.trans w6
      have w4 := u4.trans w5
      have w3 := u3.trans w4
      have w2 := u2.trans w3
      have w1 := u1.trans w2
      have f1 : hid a H' q1 = _ := (hid_ne a1).trans (w2.get k1 a1)
      have f2 : hid a H' q2 = _ := (hid_ne a2).trans (w3.get k2 a2)
      have f3 : hid a H' q3 = _ := (hid_ne a3).trans (w4.get k3 a3)
      have f4 : hid a H' q4 = _ := (hid_ne a4).trans (w5.get k4 a4)
      have f6 : hid a H' q6 = _ := (hid_ne a6).trans (w7.get k6 a6)
      have f7 : hid a H' q7 = _ := (hid_ne a7).trans (w8.get k7 a7)
      have f8 : hid a H' q8 = _ := (hid_ne a8).trans (w9.get k8 a8)
      have hxf := hxs.le sf.same
      have dt : Dx (hid a H') (.ref t) (.tuple ds) := .tup (sf.same t _ et) hxf
      have dff := dfr6.le w1.same
      obtain ⟨dd, hdd, wdd, ddd⟩ := tk_dx (H := hid a H') mk tm
      suffices h : ∃ d, Dx (hid a H') v d ∧ Fit 10000 8 d by
        obtain ⟨d, h1, h2⟩ := h
        exact k v d H' h1 h2 sf
      simp only [List.mem_cons, List.not_mem_nil, or_false] at hv
      rcases hv with rfl | rfl | rfl | rfl | rfl | rfl | rfl | rfl | rfl | rfl | rfl
      · exact ⟨_, .non, fit_non⟩
      · exact ⟨_, .int 0 (by decide +kernel) (by decide +kernel), fit_zero⟩
      · exact ⟨_, .tup f1 .nil, (FitA.nil (n := 0) (m := 0)).tup.le⟩
      · exact ⟨_, .lst f2 n2 .nil, (FitA.nil (n := 0) (m := 0)).lst.le⟩
      · exact ⟨_, .dct f3 .nil, by simp only [PyData.weight, PyData.weightKv]; omega, by simp only [PyData.depth, PyData.depthKv]; omega⟩
      · exact ⟨_, .lst f4 n4 hxf, fds.lst.le⟩
      · exact ⟨_, .str _ ((lo_lit (y := "ab") (by decide +kernel)).tok (by decide)), fit_str (by decide +kernel)⟩
      · exact ⟨_, .dct f6 hdd, by simp only [PyData.weight]; rw [List.length_nil] at lm; omega, by simp only [PyData.depth, ddd]; omega⟩
      · exact ⟨_, .tup f7 (.cons dt .nil), (FitA.cons fds.tup (FitA.nil (n := 0))).tup.le⟩
      · exact ⟨_, .tup f8 (.cons dff .nil), (FitA.cons ffr (FitA.nil (n := 0))).tup.le⟩
      · exact ⟨_, dt, fds.tup.le⟩
    | false =>
      refine iteF ?_
      have hne := hne rfl
      have l1 : 0 < ds.length := List.length_pos_iff.mpr hne
      have hr : r.toNat < xs.length := by
        split at r1 <;> omega
      have hx := List.getElem?_eq_getElem hr
      obtain ⟨dp, hdp, hxp⟩ := hxs.get hx
      generalize xs[r.toNat] = xp at hx hxp
      obtain ⟨p, nm, sg, rfl, rfl, hp0, gnm, gsg⟩ := part_inv hxp (prt dp (List.mem_of_getElem? hdp))
      have hp6 := s6.same p _ hp0
      have lnm := lo_name gnm
      have lsg := lo_signs gsg
      have hx6 := hxs.le s6.same
      have pota : ∀ {G : Hp} {q : Addr} {ys : List V}, Pot G a → G q = some (.tup ys) → hid a G q = some (.tup ys) := fun h e => by
        obtain ⟨p0, p1, p2, e0, _⟩ := h.ex
        rw [hid_ne (ne_of e e0 (by intro z; cases z))]; exact e
      have fin : ∀ (q : Addr) (G : Hp) (ys : List V) (es : List PyData), Stp a H6 G → G q = some (.tup ys) → DxAll (hid a G) ys es → FitA 9900 7 es → Q (.ref q) G := fun q G ys es st e dx ft =>
        k _ _ _ (.tup (pota st.pot e) dx) ft.tup.le (s6.trans st)
      refine ⟨_, rfl, _, rfl, t, xs, r, .ref p, rfl, rfl, SqT.of et60, atI_of r0 hx, p, _, rfl, SqT.of (hid_some hp6).2, rfl, _, _, rfl, _, _, rfl, rfl, ?_⟩
      refine ⟨_, rfl, rfl, _, rfl, ?_⟩
      refine ite2 (fun c1 => ?_) (fun c1 => ?_)
      · refine ⟨_, rfl, _, rfl, _, rfl, ?_⟩
        refine sl_get et60 fun t1 G1 e1 h1 => ?_
        refine ⟨_, rfl, _, rfl, _, _, rfl, rfl, _, rfl, ?_⟩
        unfold tNoPart
        refine sl_get (e1 _ _ et60) fun t2 G2 e2 h2 => ?_
        rw [cutV_to _ _ r0] at h1
        rw [cutV_from _ _ (by omega)] at h2
        refine cat_get (e2 _ _ h1) h2 (by rw [List.length_take, List.length_drop, sizeLine_eq]; omega) fun t3 G3 e3 h3 => ?_
        have st := Stp.of_same s6.pot ((e1.trans e2).trans e3)
        exact fin t3 G3 _ _ st h3 (((hx6.le st.same).take _).append ((hx6.le st.same).drop _)) ((fds.take _).append (fds.drop _)).le
      refine ⟨_, rfl, rfl, _, rfl, ?_⟩
      refine ite2 (fun c2 => ?_) (fun c2 => ?_)
      · refine ⟨_, rfl, _, rfl, by show 1 ≤ sizeLine; decide, fun q1 hq1 => ?_⟩
        obtain ⟨u1, k1, a1, m1⟩ := nw (o := .tup [.ref fr]) s6.pot hq1
        generalize upd H6 q1 (.tup [.ref fr]) = H7 at u1 k1 m1
        refine ⟨_, rfl, _, rfl, by show 2 ≤ sizeLine; decide, fun q2 hq2 => ?_⟩
        obtain ⟨u2, k2, a2, m2⟩ := nw (o := .tup [.ref fr, .ref fr]) u1.pot hq2
        generalize upd H7 q2 (.tup [.ref fr, .ref fr]) = H8 at u2 k2 m2
        have et8 := (m1.trans m2) _ _ et60
        refine ⟨_, rfl, _, rfl, t, xs, r, .ref p, rfl, rfl, SqT.of et8, atI_of r0 hx, _, rfl, _, rfl, t, xs, r, .ref p, rfl, rfl, SqT.of et8, atI_of r0 hx, by show 2 ≤ sizeLine; decide, fun q3 hq3 => ?_⟩
        obtain ⟨u3, k3, a3, m3⟩ := nw (o := .tup [.ref p, .ref p]) u2.pot hq3
        generalize upd H8 q3 (.tup [.ref p, .ref p]) = H9 at u3 k3 m3
        refine ⟨by show 3 ≤ sizeLine; decide, fun q4 hq4 _ => ?_⟩
        obtain ⟨u4, k4, a4, m4⟩ := nw (o := .lst [.ref q1, .ref q2, .ref q3]) u3.pot hq4
        generalize upd H9 q4 (.lst [.ref q1, .ref q2, .ref q3]) = H10 at u4 k4 m4
        refine ⟨a, _, _, rfl, u4.pot, Of3.newH k4 a4, by simp, by show 3 ≤ 100000; decide, fun v G hv st => ?_⟩
        have w3 := u4.trans st
        have w2 := u3.trans w3
        have w1 := u2.trans w2
        have w0 := u1.trans w1
        have dfg := dfr6.le w0.same
        have dpg := (hxp.le s6.same).le w0.same
        obtain ⟨q, ys, es, rfl, eq, dq, fq⟩ : ∃ (q : Addr) (ys : List V) (es : List PyData), v = .ref q ∧ G q = some (.tup ys) ∧ DxAll (hid a G) ys es ∧ FitA 100 1 es := by
          simp only [List.mem_cons, List.not_mem_nil, or_false] at hv
          rcases hv with rfl | rfl | rfl
          · exact ⟨q1, _, _, rfl, w1.get k1 a1, .cons dfg .nil, (FitA.cons ffr (FitA.nil (n := 0))).le⟩
          · exact ⟨q2, _, _, rfl, w2.get k2 a2, .cons dfg (.cons dfg .nil), (FitA.cons ffr (FitA.cons ffr (FitA.nil (n := 0)))).le⟩
          · exact ⟨q3, _, _, rfl, w3.get k3 a3, .cons dpg (.cons dpg .nil), (FitA.cons (fit_pair lnm lsg) (FitA.cons (fit_pair lnm lsg) (FitA.nil (n := 0)))).le⟩
        have lq := dq.length
        have lq2 : ys.length ≤ 1000 := by
          simp only [List.mem_cons, List.not_mem_nil, or_false] at hv
          have hl : ∀ {q' : Addr} {l : List V}, V.ref q = V.ref q' → G q' = some (.tup l) → l.length ≤ 2 → ys.length ≤ 1000 := fun e g h => by
            injection e with e
            subst e
            rw [eq] at g
            cases g
            omega
          rcases hv with e | e | e
          · exact hl e (w1.get k1 a1) (by simp)
          · exact hl e (w2.get k2 a2) (by simp)
          · exact hl e (w3.get k3 a3) (by simp)
        have etg := (hid_some (w0.same t _ et6)).2
        refine ⟨_, rfl, _, rfl, _, rfl, ?_⟩
        refine sl_get etg fun t1 G1 e1 h1 => ?_
        rw [cutV_to _ _ r0] at h1
        refine ⟨_, rfl, ?_⟩
        refine cat_get h1 (e1 _ _ eq) (by rw [List.length_take, sizeLine_eq]; omega) fun t2 G2 e2 h2 => ?_
        refine ⟨_, rfl, _, rfl, _, rfl, ?_⟩
        unfold tNoPart
        refine sl_get ((e1.trans e2) _ _ etg) fun t3 G3 e3 h3 => ?_
        rw [cutV_from _ _ r0] at h3
        refine cat_get (e3 _ _ h2) h3 (by rw [List.length_append, List.length_take, List.length_drop, sizeLine_eq]; omega) fun t4 G4 e4 h4 => ?_
        have stg := Stp.of_same st.pot (((e1.trans e2).trans e3).trans e4)
        have sta := w0.trans stg
        exact fin t4 G4 _ _ sta h4 ((((hx6.le sta.same).take _).append (dq.le stg.same)).append ((hx6.le sta.same).drop _)) (((fds.take _).append fq).append (fds.drop _)).le
      refine ⟨_, rfl, rfl, _, rfl, ?_⟩
      refine ite2 (fun c3 => ?_) (fun c3 => ?_)
      · refine ⟨_, rfl, _, rfl, _, rfl, ?_⟩
        refine sl_get et60 fun t1 G1 e1 h1 => ?_
        rw [cutV_to _ _ r0] at h1
        have st1 := Stp.of_same s6.pot e1
        refine ⟨_, rfl, _, rfl, a, nm, rfl, st1.pot, lnm, fun v d G2 dv fv st2 => ?_⟩
        refine ⟨_, rfl, by show 2 ≤ sizeLine; decide, fun q1 hq1 => ?_⟩
        obtain ⟨u1, k1, a1, m1⟩ := nw (o := .tup [v, .str sg]) st2.pot hq1
        generalize upd G2 q1 (.tup [v, .str sg]) = G3 at u1 k1 m1
        refine ⟨by show 1 ≤ sizeLine; decide, fun q2 hq2 => ?_⟩
        obtain ⟨u2, k2, a2, m2⟩ := nw (o := .tup [.ref q1]) u1.pot hq2
        generalize upd G3 q2 (.tup [.ref q1]) = G4 at u2 k2 m2
        have st4 := (st2.trans u1).trans u2
        refine cat_get (st4.tle st1.pot _ _ h1) k2 (by rw [List.length_take, List.length_singleton, sizeLine_eq]; omega) fun t2 G5 e5 h5 => ?_
        refine ⟨_, rfl, _, rfl, _, _, rfl, rfl, _, rfl, ?_⟩
        unfold tNoPart
        have w5 := Stp.of_same u2.pot e5
        have et5 := ((st1.trans st4).trans w5).same t _ et6
        refine sl_get (hid_some et5).2 fun t3 G6 e6 h6 => ?_
        rw [cutV_from _ _ (by omega)] at h6
        refine cat_get (e6 _ _ h5) h6 (by rw [List.length_append, List.length_take, List.length_drop, List.length_singleton, sizeLine_eq]; omega) fun t4 G7 e7 h7 => ?_
        have w7 := Stp.of_same u2.pot ((e5.trans e6).trans e7)
        have sta := (st1.trans st4).trans w7
        have dq1 : Dx (hid a G7) (.ref q1) (.tuple [d, .str sg]) := .tup (pota w7.pot ((u2.trans w7).get k1 a1)) (.cons ((dv.le (u1.trans u2).same).le w7.same) (.cons (.str sg (lsg.tok (by decide))) .nil))
        have fq : FitA 9600 4 [.tuple [d, .str sg]] := (FitA.cons (FitA.cons fv (FitA.cons (fit_str lsg.len) (FitA.nil (n := 0)))).tup (FitA.nil (n := 0))).le
        exact fin t4 G7 _ _ sta h7 ((((hx6.le sta.same).take _).append (.cons dq1 .nil)).append ((hx6.le sta.same).drop _)) (((fds.take _).le (n' := 57) (m' := 4)).append fq |>.append ((fds.drop _).le (n' := 57) (m' := 4))).le
      refine ⟨_, rfl, rfl, _, rfl, ?_⟩
      refine ite2 (fun c4 => ?_) (fun c4 => ?_)
      · refine ⟨_, rfl, _, rfl, _, rfl, ?_⟩
        refine sl_get et60 fun t1 G1 e1 h1 => ?_
        rw [cutV_to _ _ r0] at h1
        have st1 := Stp.of_same s6.pot e1
        refine ⟨_, rfl, _, rfl, _, rfl, a, sg, rfl, st1.pot, lsg, fun v d G2 dv fv st2 => ?_⟩
        refine ⟨by show 2 ≤ sizeLine; decide, fun q1 hq1 => ?_⟩
        obtain ⟨u1, k1, a1, m1⟩ := nw (o := .tup [.str nm, v]) st2.pot hq1
        generalize upd G2 q1 (.tup [.str nm, v]) = G3 at u1 k1 m1
        refine ⟨by show 1 ≤ sizeLine; decide, fun q2 hq2 => ?_⟩
        obtain ⟨u2, k2, a2, m2⟩ := nw (o := .tup [.ref q1]) u1.pot hq2
        generalize upd G3 q2 (.tup [.ref q1]) = G4 at u2 k2 m2
        have st4 := (st2.trans u1).trans u2
        refine cat_get (st4.tle st1.pot _ _ h1) k2 (by rw [List.length_take, List.length_singleton, sizeLine_eq]; omega) fun t2 G5 e5 h5 => ?_
        refine ⟨_, rfl, _, rfl, _, _, rfl, rfl, _, rfl, ?_⟩
        unfold tNoPart
        have w5 := Stp.of_same u2.pot e5
        have et5 := ((st1.trans st4).trans w5).same t _ et6
        refine sl_get (hid_some et5).2 fun t3 G6 e6 h6 => ?_
        rw [cutV_from _ _ (by omega)] at h6
        refine cat_get (e6 _ _ h5) h6 (by rw [List.length_append, List.length_take, List.length_drop, List.length_singleton, sizeLine_eq]; omega) fun t4 G7 e7 h7 => ?_
        have w7 := Stp.of_same u2.pot ((e5.trans e6).trans e7)
        have sta := (st1.trans st4).trans w7
        have dq1 : Dx (hid a G7) (.ref q1) (.tuple [.str nm, d]) := .tup (pota w7.pot ((u2.trans w7).get k1 a1)) (.cons (.str nm (lnm.tok (by decide))) (.cons ((dv.le (u1.trans u2).same).le w7.same) .nil))
        have fq : FitA 9600 4 [.tuple [.str nm, d]] := (FitA.cons (FitA.cons (fit_str lnm.len) (FitA.cons fv (FitA.nil (n := 0)))).tup (FitA.nil (n := 0))).le
        exact fin t4 G7 _ _ sta h7 ((((hx6.le sta.same).take _).append (.cons dq1 .nil)).append ((hx6.le sta.same).drop _)) (((fds.take _).le (n' := 57) (m' := 4)).append fq |>.append ((fds.drop _).le (n' := 57) (m' := 4))).le
      refine ⟨_, rfl, _, rfl, by show 2 ≤ sizeLine; decide, fun q1 hq1 ne1 => ?_⟩
      obtain ⟨u1, k1, a1, m1⟩ := nw (o := .lst [.str nm, .str sg]) s6.pot hq1
      generalize upd H6 q1 (.lst [.str nm, .str sg]) = G7 at u1 k1 m1
      refine ⟨_, rfl, by show 1 ≤ sizeLine; decide, fun q2 hq2 => ?_⟩
      obtain ⟨u2, k2, a2, m2⟩ := nw (o := .tup [.str nm]) u1.pot hq2
      generalize upd G7 q2 (.tup [.str nm]) = G8 at u2 k2 m2
      refine ⟨_, rfl, _, rfl, _, rfl, by show 3 ≤ sizeLine; decide, fun q3 hq3 => ?_⟩
      obtain ⟨u3, k3, a3, m3⟩ := nw (o := .tup [.str nm, .str sg, .str sg]) u2.pot hq3
      generalize upd G8 q3 (.tup [.str nm, .str sg, .str sg]) = G9 at u3 k3 m3
      refine ⟨_, rfl, _, rfl, by show 2 ≤ sizeLine; decide, fun q4 hq4 => ?_⟩
      obtain ⟨u4, k4, a4, m4⟩ := nw (o := .tup [.str sg, .str nm]) u3.pot hq4
      generalize upd G9 q4 (.tup [.str sg, .str nm]) = G10 at u4 k4 m4
      refine ⟨_, rfl, fun q5 hq5 => ⟨_, rfl, _, rfl, upd_same, [(.inr nm, .str sg)], rfl, by show 1 ≤ 15; decide, ?_⟩⟩
      rw [show mergeK [] [((.inr nm : Key), V.str sg)] = [((.inr nm : Key), V.str sg)] from rfl, upd_twice]
      obtain ⟨u5, k5, a5, m5⟩ := nw (o := .dK [(.inr nm, .str sg)]) u4.pot hq5
      generalize upd G10 q5 (.dK [(.inr nm, .str sg)]) = G11 at u5 k5 m5
      refine ⟨_, rfl, _, rfl, by show 1 ≤ sizeLine; decide, fun q6 hq6 => ?_⟩
      obtain ⟨u6, k6, a6, m6⟩ := nw (o := .tup [.str sg]) u5.pot hq6
      generalize upd G11 q6 (.tup [.str sg]) = G12 at u6 k6 m6
      refine ⟨by show 2 ≤ sizeLine; decide, fun q7 hq7 => ?_⟩
      obtain ⟨u7, k7, a7, m7⟩ := nw (o := .tup [.str nm, .ref q6]) u6.pot hq7
      generalize upd G12 q7 (.tup [.str nm, .ref q6]) = G13 at u7 k7 m7
      refine ⟨by show 8 ≤ sizeLine; decide, fun q8 hq8 ne8 => ?_⟩
      obtain ⟨u8, k8, a8, m8⟩ := nw (o := .lst [.ref q1, .ref q2, .ref q3, .ref q4, .non, .str nm, .ref q5, .ref q7]) u7.pot hq8
      generalize upd G13 q8 (.lst [.ref q1, .ref q2, .ref q3, .ref q4, .non, .str nm, .ref q5, .ref q7]) = G14 at u8 k8 m8
      refine ⟨_, rfl, _, rfl, _, rfl, by show 2 ≤ sizeLine; decide, fun q9 hq9 => ?_⟩
      obtain ⟨u9, k9, a9, m9⟩ := nw (o := .tup [.str nm, .str sg]) u8.pot hq9
      generalize upd G14 q9 (.tup [.str nm, .str sg]) = G15 at u9 k9 m9
      refine ⟨_, rfl, _, rfl, _, rfl, _, _, rfl, Of3.str (by have := lsg.len; omega), fun q10 hq10 ne10 => ?_⟩
      obtain ⟨u10, k10, a10, m10⟩ := nw (o := .lst ((cps sg).map S1)) u9.pot hq10
      generalize upd G15 q10 (.lst ((cps sg).map S1)) = G16 at u10 k10 m10
      refine ⟨by show 2 ≤ sizeLine; decide, fun q11 hq11 => ?_⟩
      obtain ⟨u11, k11, a11, m11⟩ := nw (o := .tup [.str nm, .ref q10]) u10.pot hq11
      generalize upd G16 q11 (.tup [.str nm, .ref q10]) = G17 at u11 k11 m11
      refine ⟨by show 0 ≤ sizeLine; decide, fun q12 hq12 => ?_⟩
      obtain ⟨u12, k12, a12, m12⟩ := nw (o := .tup []) u11.pot hq12
      generalize upd G17 q12 (.tup []) = G18 at u12 k12 m12
      refine ⟨by show 4 ≤ sizeLine; decide, fun q13 hq13 ne13 => ?_⟩
      obtain ⟨u13, k13, a13, m13⟩ := nw (o := .lst [.ref q9, .ref fr, .ref q11, .ref q12]) u12.pot hq13
      generalize upd G18 q13 (.lst [.ref q9, .ref fr, .ref q11, .ref q12]) = G19 at u13 k13 m13
      have k8' := u13.get (u12.get (u11.get (u10.get (u9.get k8 a8) a8) a8) a8) a8
      refine ⟨q8, q13, _, _, rfl, rfl, k8', k13, by show 8 + 4 ≤ sizeLine; decide, fun q14 hq14 => ?_⟩
      obtain ⟨u14, k14, a14, m14⟩ := nw (o := .lst ([.ref q1, .ref q2, .ref q3, .ref q4, .non, .str nm, .ref q5, .ref q7] ++ [.ref q9, .ref fr, .ref q11, .ref q12])) u13.pot hq14
      generalize upd G19 q14 (.lst ([.ref q1, .ref q2, .ref q3, .ref q4, .non, .str nm, .ref q5, .ref q7] ++ [.ref q9, .ref fr, .ref q11, .ref q12])) = G20 at u14 k14 m14
      have w14 := u14
      have w13 := u13.trans w14
      have w12 := u12.trans w13
      have w11 := u11.trans w12
      have w10 := u10.trans w11
      have w9 := u9.trans w10
      have w8 := u8.trans w9
      have w7 := u7.trans w8
      have w6 := u6.trans w7
      have w5 := u5.trans w6
      have w4 := u4.trans w5
      have w3 := u3.trans w4
      have w2 := u2.trans w3
      have w1 := u1.trans w2
      have etl := (hid_some (w1.same t _ et6)).2
      refine ⟨_, rfl, _, rfl, _, rfl, ?_⟩
      refine sl_get etl fun t1 G1 e1 h1 => ?_
      rw [cutV_to _ _ r0] at h1
      have x1 := Stp.of_same u14.pot e1
      refine ⟨_, rfl, _, rfl, a, _, _, rfl, x1.pot, Of3.newH (x1.get k14 a14) a14, by simp, by show 12 ≤ 100000; decide, fun v G2 hv x2 => ?_⟩
      have y := x1.trans x2
      have fl : ∀ {q : Addr} {o : HO}, G20 q = some o → q ≠ a → hid a G2 q = some o := fun h e => (hid_ne e).trans (y.get h e)
      have f1 := fl (w2.get k1 a1) a1
      have f2 := fl (w3.get k2 a2) a2
      have f3 := fl (w4.get k3 a3) a3
      have f4 := fl (w5.get k4 a4) a4
      have f5 := fl (w6.get k5 a5) a5
      have f6 := fl (w7.get k6 a6) a6
      have f7 := fl (w8.get k7 a7) a7
      have f9 := fl (w10.get k9 a9) a9
      have f10 := fl (w11.get k10 a10) a10
      have f11 := fl (w12.get k11 a11) a11
      have f12 := fl (w13.get k12 a12) a12
      have dfg := (dfr6.le w1.same).le y.same
      have tnm := lnm.tok (by decide)
      have tsg := lsg.tok (by decide)
      obtain ⟨dc, hdc, fdc⟩ := dx_chars (H := hid a G2) (cps sg) lsg.cod
      have lsg8 : (cps sg).length ≤ 8 := by rw [← len_cps]; exact lsg.len
      obtain ⟨d, dv, fv⟩ : ∃ d, Dx (hid a G2) v d ∧ Fit 200 6 d := by
        simp only [List.cons_append, List.nil_append, List.mem_cons, List.not_mem_nil, or_false] at hv
        rcases hv with rfl | rfl | rfl | rfl | rfl | rfl | rfl | rfl | rfl | rfl | rfl | rfl
        · exact ⟨_, .lst f1 ne1 (.cons (.str nm tnm) (.cons (.str sg tsg) .nil)), (FitA.cons (fit_str lnm.len) (FitA.cons (fit_str lsg.len) (FitA.nil (n := 0) (m := 0)))).lst.le⟩
        · exact ⟨_, .tup f2 (.cons (.str nm tnm) .nil), (FitA.cons (fit_str lnm.len) (FitA.nil (n := 0) (m := 0))).tup.le⟩
        · exact ⟨_, .tup f3 (.cons (.str nm tnm) (.cons (.str sg tsg) (.cons (.str sg tsg) .nil))), (FitA.cons (fit_str lnm.len) (FitA.cons (fit_str lsg.len) (FitA.cons (fit_str lsg.len) (FitA.nil (n := 0) (m := 0))))).tup.le⟩
        · exact ⟨_, .tup f4 (.cons (.str sg tsg) (.cons (.str nm tnm) .nil)), (FitA.cons (fit_str lsg.len) (FitA.cons (fit_str lnm.len) (FitA.nil (n := 0) (m := 0)))).tup.le⟩
        · exact ⟨_, .non, fit_non⟩
        · exact ⟨_, .str nm tnm, (fit_str (m := 0) lnm.len).le⟩
        · have e1 : nm.cps.size ≤ 8 := lnm.len
          have e2 : sg.cps.size ≤ 8 := lsg.len
          exact ⟨_, .dct f5 (.cons tnm (.str sg tsg) .nil), by simp only [PyData.weight, PyData.weightKv]; omega, by simp only [PyData.depth, PyData.depthKv]; omega⟩
        · exact ⟨_, .tup f7 (.cons (.str nm tnm) (.cons (.tup f6 (.cons (.str sg tsg) .nil)) .nil)), (FitA.cons (fit_str lnm.len) (FitA.cons (FitA.cons (fit_str lsg.len) (FitA.nil (n := 0) (m := 0))).tup (FitA.nil (n := 0)))).tup.le⟩
        · exact ⟨_, .tup f9 (.cons (.str nm tnm) (.cons (.str sg tsg) .nil)), (FitA.cons (fit_str lnm.len) (FitA.cons (fit_str lsg.len) (FitA.nil (n := 0) (m := 0)))).tup.le⟩
        · exact ⟨_, dfg, ffr.le⟩
        · exact ⟨_, .tup f11 (.cons (.str nm tnm) (.cons (.lst f10 ne10 hdc) .nil)), (FitA.cons (fit_str lnm.len) (FitA.cons fdc.lst (FitA.nil (n := 0)))).tup.le⟩
        · exact ⟨_, .tup f12 .nil, (FitA.nil (n := 0) (m := 0)).tup.le⟩
      refine ⟨by show 1 ≤ sizeLine; decide, fun q15 hq15 => ?_⟩
      obtain ⟨u15, k15, a15, m15⟩ := nw (o := .tup [v]) x2.pot hq15
      generalize upd G2 q15 (.tup [v]) = G3 at u15 k15 m15
      have x3 := x2.trans u15
      refine cat_get (x3.tle x1.pot _ _ h1) k15 (by rw [List.length_take, List.length_singleton, sizeLine_eq]; omega) fun t2 G5 e5 h5 => ?_
      refine ⟨_, rfl, _, rfl, _, _, rfl, rfl, _, rfl, ?_⟩
      unfold tNoPart
      have w5' := Stp.of_same u15.pot e5
      have et5 := ((w1.trans (x1.trans x3)).trans w5').same t _ et6
      refine sl_get (hid_some et5).2 fun t3 G6 e6 h6 => ?_
      rw [cutV_from _ _ (by omega)] at h6
      refine cat_get (e6 _ _ h5) h6 (by rw [List.length_append, List.length_take, List.length_drop, List.length_singleton, sizeLine_eq]; omega) fun t4 G7 e7 h7 => ?_
      have w7' := Stp.of_same u15.pot ((e5.trans e6).trans e7)
      have sta := (w1.trans (x1.trans x3)).trans w7'
      have dvf := dv.le (u15.trans w7').same
      exact fin t4 G7 _ _ sta h7 ((((hx6.le sta.same).take _).append (.cons dvf .nil)).append ((hx6.le sta.same).drop _)) ((((fds.take _).le (n' := 57) (m' := 6)).append (FitA.cons fv (FitA.nil (n := 0)))).append ((fds.drop _).le (n' := 57) (m' := 6))).le
end
end Fs
namespace Fs
open PySem PySem.Spec PyProof.Rows L2 SlX
/-! ### the class Streams -/
structure Sx (K : PySem.W.Frag) (mg : Str → Option Value) (C S : Addr) : Prop where
  gC : mg "Streams" = some (.ref C)
  gS : mg "InvalidStreams" = some (.ref S)
  kS : PySem.W.keepIn K (.ref S) = true
  xS : PySem.W.excIn K S [.type "ValueError", .type "Exception", .type "BaseException", .type "object"] "ValueError.__new__" = true
  bS : PySem.W.subIn K (.ref S) (.type "BaseException") = some true
  tS : PySem.W.typeIn K (.ref S) = some (.type "type")
  te : PySem.W.exmOne K (.ref S) (.ref S) = some true
  sc : SCls K C
  t0 : ∃ p, Slot1 K C "own_sources" p 3
  t1 : ∃ p, Slot1 K C "own_sinks" p 2
  t2 : ∃ p, Slot1 K C "own_names" p 0
  t3 : ∃ p, Slot1 K C "own_signs" p 1
theorem slt_le {H H' : Hp} {a C dx : Addr} {vs : List (Option V)} (h1 : H a = some (SlO a C dx vs)) (h2 : H dx = some (.xd [])) (e : Same H H') : Slt H' a C dx vs := .inr ⟨e _ _ h1, e _ _ h2⟩
/-- the wish of __init__ -/
def spInit (C S : Addr) : Sp := fun vs H Q E => ∃ (x dx : Addr) (u v : V) (d e : PyData) (H0 : Hp), vs = [.ref x, u, v] ∧ H x = some (.ins C dx []) ∧ dx ≠ x ∧ H0 x = none ∧ H0 dx = none ∧ Same H0 H ∧ Dx H0 u d ∧ Dx H0 v e ∧
  (areStreamsD d e = true → ∀ (H' : Hp) (n1 n2 : V), Same H0 H' → Slt H' x C dx [some n1, some n2, some v, some u] → Q .non H') ∧ (areStreamsD d e = false → ∀ H', Same H0 H' → E (.ref S) none H')
theorem slH_same {H0 H : Hp} {a C dx : Addr} {vs : List (Option V)} (e : Same H0 H) (h1 : H0 a = none) (h2 : H0 dx = none) : Same H0 (slH H a C dx vs) := fun b o q => by
  rw [slH_ne (ne_of_none q h1) (ne_of_none q h2)]; exact e b o q
section
variable {P : Program} {w : World} {K : PySem.W.Frag} {mg : Str → Option Value} {base : Heap} {C S : Addr}
abbrev s_init : Stmt := inClass (top 17) 1
theorem sc_init : FnScope ["self", "sources", "sinks", "name", "signs"] ["self", "sources", "sinks"] (defScope s_init) := ⟨rfl, rfl, rfl, by decide +kernel, rfl, by decide +kernel, by decide +kernel⟩
theorem fn_init {f : Addr} {fd : FuncData} (T : Bs mg) (Z : Sx K mg C S) (F : L2.Fun K "__init__" "Streams.__init__" s_init f fd) (C_p_streams : Cal P w K mg base 4 "are_streams" spStr) : FnG P w K mg base (L2.CX P w) 5 f fd ["self", "sources", "sinks"] (spInit C S) := by
  refine FnG.by F sc_init (fun vs H Q E h => ?_) (fun cdv A outer s H vs Q E room gd h => ?_)
  · obtain ⟨x, dx, u, v, d, e, H0, rfl, _⟩ := h
    rfl
  · have hr : Rm 4 _ := ⟨room, gd⟩
    obtain ⟨x, dx, u, v, d, e, H0, rfl, hx, hne, h0x, h0d, sm, hd, he, kt, kf⟩ := h
    refine ⟨_, pss_cons (ps_if (pt_not (pt_val (pc C_p_streams hr (pa_cons (pv 1) (pa_cons (pv 2) pa_nil)))))
        (pss_one (ps_raise rfl (takes_of rfl rfl rfl rfl) (pmk_own PySem.F.excBase_ValueError Z.xS Z.gS Z.kS (raises_own Z.bS Z.tS) rfl)))
        pss_nil)
      (PSs.nox (pss_cons (ps_sl (pv 0) (pv 1))
      (pss_cons (ps_sl (pv 0) (pv 2))
      (pss_cons (ps_sl (pv 0) (pt call_tuple_of T.z_tuple (pa_cons (pe_lc (own := [("name", 3), ("signs", 4)]) (te := (tVar 3)) (g := gTup K 2 (gCons (gName 3) (gCons (gName 4) gNil))) rfl sc_init.nd (pi_tup (pe_op op_catA (pv 1) (pv 2))) (blkOk_by (N := ["self", "sources", "sinks", "name", "signs"]) (sc := defScope s_init) (by decide +kernel)) (fun _ _ _ _ _ => (pg_tup rfl (pgs_cons (pg_name (i := 3) sc_init.nd rfl (Or.inl rfl)) (pgs_cons (pg_name (i := 4) sc_init.nd rfl (Or.inl rfl)) pgs_nil)))) (fun _ _ _ _ _ => pts_nil) (fun _ _ _ _ _ => (pv 3))) pa_nil)))
      (pss_one (ps_sl (pv 0) (pe_dc (own := [("name", 3), ("signs", 4)]) (tk := (tVar 3)) (tv := (tVar 4)) (g := gTup K 2 (gCons (gName 3) (gCons (gName 4) gNil))) rfl sc_init.nd (pi_tup (pe_op op_catA (pv 1) (pv 2))) (blkOk_by (N := ["self", "sources", "sinks", "name", "signs"]) (sc := defScope s_init) (by decide +kernel)) (fun _ _ _ _ _ => (pg_tup rfl (pgs_cons (pg_name (i := 3) sc_init.nd rfl (Or.inl rfl)) (pgs_cons (pg_name (i := 4) sc_init.nd rfl (Or.inl rfl)) pgs_nil)))) (fun _ _ _ _ _ => pts_nil) (fun _ _ _ _ _ => (pv 3)) (fun _ _ _ _ _ => (pv 4))))))))), ?_⟩
    obtain ⟨p0, t0⟩ := Z.t0
    obtain ⟨p1, t1⟩ := Z.t1
    obtain ⟨p2, t2⟩ := Z.t2
    obtain ⟨p3, t3⟩ := Z.t3
    refine ⟨_, rfl, _, rfl, u, v, d, e, rfl, hd.le sm, he.le sm, fun H1 e1 => ⟨_, rfl, ?_⟩⟩
    have s1 := sm.trans e1
    cases c : areStreamsD d e with
    | false => exact iteT (kf c H1 s1)
    | true =>
      refine iteF ?_
      have ktt := kt c
      refine ⟨_, rfl, _, rfl, x, C, dx, p0, [], 3, rfl, .inl ⟨e1 _ _ hx, rfl⟩, Z.sc, t0, ?_⟩
      have s2 : Same H0 (slH H1 x C dx (putS 3 u [])) := slH_same s1 h0x h0d
      refine ⟨_, rfl, _, rfl, x, C, dx, p1, [none, none, none, some u], 2, rfl, slH_slt hne, Z.sc, t1, ?_⟩
      rw [slH_twice hne]
      have e2 : putS 2 v [none, none, none, some u] = [none, none, some v, some u] := rfl
      rw [e2]
      have s3 : Same H0 (slH H1 x C dx [none, none, some v, some u]) := slH_same s1 h0x h0d
      have x3 : (slH H1 x C dx [none, none, some v, some u]) x = some (SlO x C dx [none, none, some v, some u]) := upd_same
      have d3 : (slH H1 x C dx [none, none, some v, some u]) dx = some (.xd []) := by unfold slH; rw [upd_ne hne, upd_same]
      generalize slH H1 x C dx [none, none, some v, some u] = H3 at s3 x3 d3
      have c' := c
      unfold areStreamsD at c'
      simp only [Bool.and_eq_true] at c'
      obtain ⟨⟨c1, c2⟩, _⟩ := c'
      obtain ⟨a, xs, ds, rfl, rfl, ea, hxs, l1, l2, q1⟩ := parts_inv hd c1
      obtain ⟨b, ys, es, rfl, rfl, eb, hys, m1, m2, q2⟩ := parts_inv he c2
      have lx := hxs.length
      have ly := hys.length
      have hall : DxAll H0 (xs ++ ys) (ds ++ es) := hxs.append hys
      have pall : ∀ z ∈ ds ++ es, isPartD z = true := fun z hz => (List.mem_append.mp hz).elim (q1 z) (q2 z)
      refine ⟨_, rfl, _, rfl, ?_⟩
      refine cat_get (s3 _ _ ea) (s3 _ _ eb) (by rw [sizeLine_eq]; omega) fun t H4 e4 ht => ?_
      refine ⟨t, rfl, ⟨_, SqT.of ht⟩, fun D hD => ?_⟩
      refine lc_tup (K := K) (a := t) (xs := xs ++ ys) (fun i H5 => Same H4 H5 ∧ ∃ l : List V, H5 D = some (.lst l) ∧ l.length ≤ i) ?_ ?_ ?_ ?_
      · exact ⟨same_upd (Same.refl H4) hD, [], upd_same, Nat.le_refl _⟩
      · rintro i H5 _ ⟨g1, _⟩
        exact SqT.of (g1 _ _ ht)
      · rintro i z H5 hz ⟨g1, l, g2, g3⟩
        have hi : i < (xs ++ ys).length := (List.getElem?_eq_some_iff.mp hz).1
        rw [List.length_append] at hi
        obtain ⟨dz, hdz, hxz⟩ := hall.get hz
        obtain ⟨q, n, sg, rfl, rfl, hq, _, _⟩ := part_inv (hxz.le ((s3.trans e4).trans g1)) (pall dz (List.mem_of_getElem? hdz))
        exact ⟨q, _, rfl, SqT.of hq, rfl, _, _, rfl, _, _, rfl, rfl, rfl, _, rfl, l, g2, by rw [sizeLine_eq]; omega, same_mut g1 hD, l ++ [.str n], upd_same, by rw [List.length_append, List.length_singleton]; omega⟩
      rintro H5 ⟨g1, l, g2, g3⟩
      refine ⟨D, l, rfl, .inl ⟨SqL.of g2, fun n1 hn1 => ?_⟩⟩
      have e6 : Same H3 (upd H5 n1 (.tup l)) := (e4.trans g1).trans (same_upd (Same.refl H5) hn1)
      generalize upd H5 n1 (.tup l) = H6 at e6
      refine ⟨_, rfl, x, C, dx, p2, [none, none, some (.ref b), some (.ref a)], 0, rfl, slt_le x3 d3 e6, Z.sc, t2, ?_⟩
      have e7 : putS 0 (V.ref n1) [none, none, some (.ref b), some (.ref a)] = [some (.ref n1), none, some (.ref b), some (.ref a)] := rfl
      rw [e7]
      have s7 : Same H0 (slH H6 x C dx [some (.ref n1), none, some (.ref b), some (.ref a)]) := slH_same (s3.trans e6) h0x h0d
      have x7 : (slH H6 x C dx [some (.ref n1), none, some (.ref b), some (.ref a)]) x = some (SlO x C dx [some (.ref n1), none, some (.ref b), some (.ref a)]) := upd_same
      have d7 : (slH H6 x C dx [some (.ref n1), none, some (.ref b), some (.ref a)]) dx = some (.xd []) := by unfold slH; rw [upd_ne hne, upd_same]
      generalize slH H6 x C dx [some (.ref n1), none, some (.ref b), some (.ref a)] = H7 at s7 x7 d7
      refine ⟨_, rfl, _, rfl, ?_⟩
      refine cat_get (s7 _ _ ea) (s7 _ _ eb) (by rw [sizeLine_eq]; omega) fun t' H8 e8 ht' => ?_
      refine ⟨t', rfl, ⟨_, SqT.of ht'⟩, fun D' hD' => ?_⟩
      refine dc_tup (K := K) (a := t') (xs := xs ++ ys) (fun i H9 => Same H8 H9 ∧ ∃ l : List (Key × V), H9 D' = some (.dK l) ∧ l.length ≤ i) ?_ ?_ ?_ ?_
      · exact ⟨same_upd (Same.refl H8) hD', [], upd_same, Nat.le_refl _⟩
      · rintro i H9 _ ⟨g1, _⟩
        exact SqT.of (g1 _ _ ht')
      · rintro i z H9 hz ⟨g1, l, g2, g3⟩
        have hi : i < (xs ++ ys).length := (List.getElem?_eq_some_iff.mp hz).1
        rw [List.length_append] at hi
        obtain ⟨dz, hdz, hxz⟩ := hall.get hz
        obtain ⟨q, n, sg, rfl, rfl, hq, _, _⟩ := part_inv (hxz.le ((s7.trans e8).trans g1)) (pall dz (List.mem_of_getElem? hdz))
        refine ⟨q, _, rfl, SqT.of hq, rfl, _, _, rfl, _, _, rfl, rfl, rfl, _, rfl, _, rfl, l, .inr n, rfl, g2, by rw [sizeLine_eq]; omega, same_mut g1 hD', putK l (.inr n) (.str sg), upd_same, ?_⟩
        have := length_putK l (.inr n : Key) (V.str sg)
        omega
      · rintro H9 ⟨g1, l, g2, g3⟩
        have x9 := g1 _ _ (e8 _ _ x7)
        have d9 := g1 _ _ (e8 _ _ d7)
        refine ⟨_, rfl, x, C, dx, p3, [some (.ref n1), none, some (.ref b), some (.ref a)], 1, rfl, .inr ⟨x9, d9⟩, Z.sc, t3, ?_⟩
        exact ktt _ (.ref n1) (.ref D') (slH_same ((s7.trans e8).trans g1) h0x h0d) (slH_slt hne)
end
end Fs
namespace Fs
open PySem PySem.Spec PyProof.Rows L2 SlX
/-! ### an instance is made, by a promise that knows the guards -/
def tMakeS (C : Addr) (sp : Sp) (E : L2.St → XK) (t : TA) : TE := fun σ H Q => t σ H fun vs H1 => ∀ x dx, H1 x = none → H1 dx = none → dx ≠ x → sp (.ref x :: vs) (upd (upd H1 dx (.own x)) x (.ins C dx [])) (fun v H2 => v = .non ∧ Q (.ref x) H2) (E σ)
section
variable {X : Cx} {CX : CXT} {k j : Nat} {f C : Addr} {fd : FuncData} {ps : List Str} {sp : Sp} {E : L2.St → XK} {x : Str} {p pos : Pos} {e : Expr} {es : List Expr} {t : TA}
theorem pe_makeG (M : Mk X.K C f) (F : FnG X.prog X.w X.K X.mg X.base CX k f fd ps sp) (hr : Rm j X.A) (hm : X.mg x = some (.ref C)) (hb : Binds X.K fd ps []) (hx : ∀ σ, PassesAt CX X σ (E σ))
    (ha : PA X (e :: es) t) (hk : k + 1 ≤ j := by decide) (hg : Gl X x := by rfl) (hdb : (x == ("__debug__" : Str)) = false := by decide) (he : starEach (e :: es) X.env = (false, eval e X.env) :: starEach es X.env := by rfl) (hpl : (backTo pos (starEach es X.env)).any (·.1) = false := by rfl) :
    PE X (.Call (.Name x p) (e :: es) [] pos) (tMakeS C sp E t) := by
  refine ⟨fun pins s σ H Q I h => ?_⟩
  refine wpAny_Call_Name_kw (ld_glob I hg hm ?_ hdb)
  refine PySem.W.callWith_K (h₀ := X.base) I.ok.mod.kin M.kp (thn (ha.run pos pins s σ H _ I h) fun us s1 ⟨vs, H1, I1, r, q⟩ => ⟨I1.kIn, ?_⟩) he hpl
  have hq := q (s1.heap.objs.size + 1) s1.heap.objs.size (I1.hok.fresh (Nat.le_succ _)) (I1.hok.fresh (Nat.le_refl _)) (Nat.ne_of_lt (Nat.lt_succ_self _))
  have I2 := Inv.made (C := C) I1
  have r2 : Vals (V.ref (s1.heap.objs.size + 1) :: vs) (Value.ref (s1.heap.objs.size + 1) :: us) := .cons rfl r
  have hl : ((Value.ref (s1.heap.objs.size + 1) :: us) ++ ([] : List Value)).length = ps.length := by
    have e := r2.length
    rw [F.lens _ _ _ _ hq] at e
    rw [List.append_nil]
    exact e.symm
  have hb' := hb _ (Value.ref (s1.heap.objs.size + 1) :: us) I2.kIn hl
  rw [List.append_nil] at hb'
  have hroom := (hr.rm.mono hk).make C us []
  have hgd : (X.A.under (.builtin "type.__call__" ⟨.ref C :: us, []⟩)).guards = some [] := hr.gd
  refine wpAny_call (make_map (f := f) I1.kIn M.makes M.init (beq_iff_eq.mp M.fn) (codeAny_mono (F.goes _ X.stack _ _ ⟨Value.ref (s1.heap.objs.size + 1) :: us, []⟩ (Value.ref (s1.heap.objs.size + 1) :: us) _ _ (E σ) hroom hgd
    (I2.env0.make C us []) hb' r2 hq) fun r s' hq' => ?_))
  cases r with
  | error e => exact hx σ pins _ _ e s' I2 hq'
  | ok fl =>
    cases fl with
    | ret u =>
      obtain ⟨v, H', I3, rv, ev, q3⟩ := I2.after hq'
      subst ev
      exact ⟨rv, ⟨V.ref (s1.heap.objs.size + 1), H', I3, rfl, q3⟩⟩
    | next => exact False.elim hq'
    | brk => exact False.elim hq'
    | cont => exact False.elim hq'
end
/-- Streams(..) or None -/
def spMet (C : Addr) : Sp := fun vs H Q _ => ∃ (u v : V) (d e : PyData), vs = [u, v] ∧ Dx H u d ∧ Dx H v e ∧
  (areStreamsD d e = true → ∀ (x dx : Addr) (H' : Hp) (n1 n2 : V), Same H H' → H x = none → Slt H' x C dx [some n1, some n2, some v, some u] → Q (.ref x) H') ∧ (areStreamsD d e = false → ∀ H', Same H H' → Q .non H')
section
variable {P : Program} {w : World} {K : PySem.W.Frag} {mg : Str → Option Value} {base : Heap} {C S : Addr}
abbrev s_met : Stmt := top 36
theorem sc_met : FnScope ["sources", "sinks"] ["sources", "sinks"] (defScope s_met) := ⟨rfl, rfl, rfl, by decide +kernel, rfl, by decide +kernel, by decide +kernel⟩
theorem cal_met {fI : Addr} {fd : FuncData} (Z : Sx K mg C S) (D : Df K mg "_law_met" s_met ["sources", "sinks"]) (M : Mk K C fI) (F : FnG P w K mg base (L2.CX P w) 5 fI fd ["self", "sources", "sinks"] (spInit C S)) (b : Binds K fd ["self", "sources", "sinks"] []) :
    Cal P w K mg base 7 "_law_met" (spMet C) := by
  refine D.cal sc_met (fun vs H Q E h => ?_) (fun f cdv A outer s H vs Q E hr h => ?_)
  · obtain ⟨u, v, d, e, rfl, _⟩ := h
    rfl
  · obtain ⟨u, v, d, e, rfl, hd, he, kt, kf⟩ := h
    refine ⟨_, pss_one (ps_try_only (tb := fun W => tRet (tMakeS C (spInit C S) (WE W) (tCons (tVar 0) (tCons (tVar 1) tNil)))) (ts := fun a cls d => tRet (tC .non)) (Wout := fun _ _ _ _ => False) rfl rfl ⟨rfl, by decide, Or.inl Z.gS⟩ takes0
      (fun W pn xe tk _ => pss_one (ps_ret (pe_makeG M F hr Z.gC b (fun σ => passAt tk σ) (pa_cons (pv 0) (pa_cons (pv 1) pa_nil)))))
      (fun a oe cls d pn hz hf => pss_one (ps_ret pe_non))), ?_⟩
    refine ⟨_, rfl, _, rfl, fun x dx hx hdx hne => ?_⟩
    have sm : Same H (upd (upd H dx (.own x)) x (.ins C dx [])) := fun b o q => by
      rw [upd_ne (ne_of_none q hx), upd_ne (ne_of_none q hdx)]; exact q
    refine ⟨x, dx, u, v, d, e, H, rfl, upd_same, hne, hx, hdx, sm, hd, he, fun c H' n1 n2 e1 sl => ⟨rfl, kt c x dx H' n1 n2 e1 hx sl⟩, fun c H' e1 => ?_⟩
    exact ⟨true, Z.te, fun _ a _ => kf c H' e1, fun q => nomatch q⟩
end
end Fs
namespace Fs
open PySem PySem.Spec PyProof.Rows L2 SlX
/-- what a slot holds -/
def spSrc (C : Addr) (i : Nat) : Sp := fun vs H Q _ => ∃ (a dx : Addr) (ws : List (Option V)) (v : V), vs = [.ref a] ∧ Slt H a C dx ws ∧ ws[i]? = some (some v) ∧ Q v H
section
variable {P : Program} {w : World} {K : PySem.W.Frag} {mg : Str → Option Value} {base : Heap} {CX : CXT} {k : Nat} {f C S : Addr} {fd : FuncData} {ps : List Str} {sp : Sp}
theorem fnR_of (F : FnOk P w K mg base CX k f fd ps sp) (b : Binds K fd ps []) : FnR P w K mg base CX k f sp := by
  intro A outer s H us vs Q E hr e0 r h
  have inK : K.In s.heap := e0.mod.kin.keeps fun b o e => And.left (e0.bs b o e)
  have hl : (us ++ ([] : List Value)).length = ps.length := by rw [List.append_nil, ← r.length]; exact F.len _ _ _ _ h
  have b1 := b s us inK hl
  rw [List.append_nil] at b1
  exact F.run A outer s H ⟨us, []⟩ us vs Q E hr e0 b1 r h
/-- a property of the class -/
structure PrX (P : Program) (w : World) (K : PySem.W.Frag) (mg : Str → Option Value) (base : Heap) (C : Addr) (f : Str) (i : Nat) : Prop where
  ex : ∃ p g : Addr, PySem.W.findIn K (.ref C) f = some (some (.ref p)) ∧ PySem.W.specialIn K (.ref p) "__get__" = some (some (.builtin "property.__get__")) ∧ PySem.W.takesIn K (.ref p) = some true ∧
    (∃ rest, PySem.W.recIn K p "property" = some (.ref g :: rest)) ∧ FnR P w K mg base CX0 1 g (spSrc C i)
abbrev s_sources : Stmt := inClass (top 17) 2
theorem sc_sources : FnScope ["self"] ["self"] (defScope s_sources) := ⟨rfl, rfl, rfl, by decide +kernel, rfl, by decide +kernel, by decide +kernel⟩
theorem fn_sources (Z : Sx K mg C S) (F : L2.Fun K "sources" "Streams.sources" s_sources f fd) : FnOk P w K mg base CX0 1 f fd ["self"] (spSrc C 3) := by
  refine F.ok sc_sources (fun vs H Q E h => ?_) (fun cdv A outer s H vs Q E hr h => ?_)
  · obtain ⟨a, dx, ws, v, rfl, _⟩ := h
    rfl
  · obtain ⟨a, dx, ws, v, rfl, sl, hv, q⟩ := h
    obtain ⟨p, t⟩ := Z.t0
    exact ⟨_, pss_one (ps_ret (pe_sl (pv 0))), _, rfl, a, C, dx, p, ws, 3, v, rfl, sl, Z.sc, t, hv, q⟩
abbrev s_sinks : Stmt := inClass (top 17) 3
theorem sc_sinks : FnScope ["self"] ["self"] (defScope s_sinks) := ⟨rfl, rfl, rfl, by decide +kernel, rfl, by decide +kernel, by decide +kernel⟩
theorem fn_sinks (Z : Sx K mg C S) (F : L2.Fun K "sinks" "Streams.sinks" s_sinks f fd) : FnOk P w K mg base CX0 1 f fd ["self"] (spSrc C 2) := by
  refine F.ok sc_sinks (fun vs H Q E h => ?_) (fun cdv A outer s H vs Q E hr h => ?_)
  · obtain ⟨a, dx, ws, v, rfl, _⟩ := h
    rfl
  · obtain ⟨a, dx, ws, v, rfl, sl, hv, q⟩ := h
    obtain ⟨p, t⟩ := Z.t1
    exact ⟨_, pss_one (ps_ret (pe_sl (pv 0))), _, rfl, a, C, dx, p, ws, 2, v, rfl, sl, Z.sc, t, hv, q⟩
end
section
variable {X : Cx} {C : Addr} {f : Str} {i j : Nat} {e : Expr} {ta : TE} {pos : Pos}
theorem pe_prop (pr : PrX X.prog X.w X.K X.mg X.base C f i) (c : SCls X.K C) (hr : Rm j X.A) (he : PE X e ta) (hj : 2 ≤ j := by decide) (hb : attributeBase e f X.env (eval e X.env) = eval e X.env := by rfl) : PE X (.Attribute e f pos) (tPropSl C (spSrc C i) E0 ta) := by
  obtain ⟨p, g, h1, h2, h3, h4, F⟩ := pr.ex
  exact pe_propSl he c h1 h2 h3 h4 F (hr.rm.mono hj) (fun _ _ _ _ z => z) hb
end
section
variable {P : Program} {w : World} {K : PySem.W.Frag} {mg : Str → Option Value} {base : Heap} {C S : Addr}
/-- a check that a drawn part of the law holds -/
def spOk : Sp := fun vs H Q _ => ∃ a : Addr, vs = [.ref a] ∧ Pot H a ∧ ∀ H', Stp a H H' → Q (.bl true) H'
abbrev s_texts_right : Stmt := top 34
theorem sc_texts_right : FnScope ["pot", "turn", "value", "again", "due"] ["pot"] (defScope s_texts_right) := ⟨rfl, rfl, rfl, by decide +kernel, rfl, by decide +kernel, by decide +kernel⟩
theorem cal_texts_right (T : Bs mg) (D : Df K mg "_law_texts_right" s_texts_right ["pot"]) (C_name : Cal P w K mg base 3 "_law_name" spName) (C_signs : Cal P w K mg base 3 "_law_signs" spSigns) (C_odd_text : Cal P w K mg base 3 "_law_odd_text" spOdd)
    (C_j_name : Cal P w K mg base 2 "_law_is_name" (spIs isNameD)) (C_j_signs : Cal P w K mg base 2 "_law_is_signs" (spIs isSignsD)) (C_p_name : Cal P w K mg base 1 "is_name" (spIs isNameD)) (C_p_signs : Cal P w K mg base 1 "is_signs" (spIs isSignsD)) :
    Cal P w K mg base 4 "_law_texts_right" spOk := by
  refine D.cal sc_texts_right (fun vs H Q E h => ?_) (fun f cdv A outer s H vs Q E hr h => ?_)
  · obtain ⟨a, rfl, _⟩ := h
    rfl
  · obtain ⟨a, rfl, hp, k⟩ := h
    refine ⟨_, pss_cons (ps_for PassesOwn.never rfl (pi_range1 (by rfl) T.z_range (pa_cons pe_int pa_nil)) (pg_name (i := 1) sc_texts_right.nd rfl (Or.inl rfl))
        (pss_one (ps_for PassesOwn.never rfl (pi_tup (pe_tup (pa_cons (pc C_odd_text hr (pa_cons (pv 0) (pa_cons (pc C_name hr (pa_cons (pv 0) pa_nil)) pa_nil))) (pa_cons (pc C_odd_text hr (pa_cons (pv 0) (pa_cons (pc C_signs hr (pa_cons (pv 0) pa_nil)) pa_nil))) pa_nil)))) (pg_name (i := 2) sc_texts_right.nd rfl (Or.inl rfl))
          (pss_one (ps_for PassesOwn.never rfl (pi_range1 (by rfl) T.z_range (pa_cons pe_int pa_nil)) (pg_name (i := 3) sc_texts_right.nd rfl (Or.inl rfl))
            (pss_cons (ps_set (i := 4) sc_texts_right.nd rfl (.inl rfl) (pe_lstN (pa_cons (pc C_j_name hr (pa_cons (pv 2) pa_nil)) (pa_cons (pc C_j_signs hr (pa_cons (pv 2) pa_nil)) pa_nil))))
            (pss_one (ps_if (pt_cmpR op_ne (pb (call_reprD hr) T.z_repr (pa_cons (pe_lstN (pa_cons (pc C_p_name hr (pa_cons (pv 2) pa_nil)) (pa_cons (pc C_p_signs hr (pa_cons (pv 2) pa_nil)) pa_nil))) pa_nil)) (pb (call_reprD hr) T.z_repr (pa_cons (pv 4) pa_nil)) (nomark _))
              (pss_one (ps_ret pe_bl))
              pss_nil))))))))
      (pss_one (ps_ret pe_bl)), ?_⟩
    refine ⟨6, rfl, by decide, by decide, for_range (fun i σ H1 => ∃ v1 v2 v3 v4 : Option V, σ = [some (.ref a), v1, v2, v3, v4] ∧ Stp a H H1) ?_ ?_ ?_⟩
    · exact ⟨none, none, none, none, rfl, Stp.refl hp⟩
    · rintro i σ H1 hi ⟨v1, v2, v3, v4, rfl, st1⟩
      refine ⟨_, rfl, _, rfl, a, rfl, st1.pot, fun z H2 hz st2 => ⟨a, z, rfl, st2.pot, lo_name hz, fun x1 d1 H3 dx1 fx1 st3 => ?_⟩⟩
      refine ⟨_, rfl, _, rfl, a, rfl, st3.pot, fun z' H4 hz' st4 => ⟨a, z', rfl, st4.pot, lo_signs hz', fun x2 d2 H5 dx2 fx2 st5 => ?_⟩⟩
      refine ⟨by show 2 ≤ sizeLine; decide, fun t ht => ?_⟩
      obtain ⟨u6, k6, a6, _⟩ := nw (o := .tup [x1, x2]) st5.pot ht
      have s6 := (((st1.trans st2).trans st3).trans st4).trans st5 |>.trans u6
      have dx1' := dx1.le ((st4.trans st5).trans u6).same
      have dx2' := dx2.le u6.same
      generalize upd H5 t (.tup [x1, x2]) = H6 at u6 k6 s6 dx1' dx2'
      have kt : hid a H6 t = some (.tup [x1, x2]) := (hid_ne a6).trans k6
      refine ⟨t, rfl, ⟨_, SqT.of k6⟩, for_tup (K := K) (a := t) (xs := [x1, x2]) (fun j σ H7 => ∃ v2 v3 v4 : Option V, σ = [some (.ref a), some (.int (0 + (i : Int))), v2, v3, v4] ∧ Stp a H6 H7) ?_ ?_ ?_ ?_⟩
      · exact ⟨v2, v3, v4, rfl, Stp.refl s6.pot⟩
      · rintro j σ H7 _ ⟨_, _, _, _, g⟩
        exact SqT.of (hid_some (g.same _ _ kt)).2
      · rintro j x σ H7 hj ⟨v2, v3, v4, rfl, g⟩
        obtain ⟨d, dx, fx⟩ : ∃ d, Dx (hid a H7) x d ∧ Fit 9500 3 d := by
          have hm : x ∈ [x1, x2] := List.mem_of_getElem? hj
          simp only [List.mem_cons, List.not_mem_nil, or_false] at hm
          rcases hm with rfl | rfl
          · exact ⟨d1, dx1'.le g.same, fx1⟩
          · exact ⟨d2, dx2'.le g.same, fx2⟩
        refine ⟨2, rfl, by decide, by decide, for_range (fun n σ H8 => ∃ v3 v4 : Option V, σ = [some (.ref a), some (.int (0 + (i : Int))), some x, v3, v4] ∧ Stp a H7 H8) ?_ ?_ ?_⟩
        · exact ⟨v3, v4, rfl, Stp.refl g.pot⟩
        · rintro n σ H8 hn ⟨v3, v4, rfl, g8⟩
          have dx8 := (dx.le g8.same).le (hid_le a H8)
          refine ⟨_, rfl, x, d, rfl, dx8, fun H9 e9 => ⟨_, rfl, x, d, rfl, dx8.le e9, fun H10 e10 => ?_⟩⟩
          refine ⟨by show 2 ≤ sizeLine; decide, fun q hq nq => ?_⟩
          have e11 : Same H8 (upd H10 q (.lst [.bl (isNameD d), .bl (isSignsD d)])) := (e9.trans e10).trans (same_upd (Same.refl H10) hq)
          have k11 : (upd H10 q (.lst [.bl (isNameD d), .bl (isSignsD d)])) q = _ := upd_same
          generalize upd H10 q (.lst [.bl (isNameD d), .bl (isSignsD d)]) = H11 at e11 k11
          refine ⟨_, rfl, x, d, rfl, dx8.le e11, fun H12 e12 => ⟨_, rfl, x, d, rfl, dx8.le (e11.trans e12), fun H13 e13 => ?_⟩⟩
          refine ⟨by show 2 ≤ sizeLine; decide, fun q2 hq2 nq2 => ?_⟩
          have e14 : Same H13 (upd H13 q2 (.lst [.bl (isNameD d), .bl (isSignsD d)])) := same_upd (Same.refl H13) hq2
          have k14 : (upd H13 q2 (.lst [.bl (isNameD d), .bl (isSignsD d)])) q2 = _ := upd_same
          generalize upd H13 q2 (.lst [.bl (isNameD d), .bl (isSignsD d)]) = H14 at e14 k14
          have fb : Fit 100000 30 (.list [.bool (isNameD d), .bool (isSignsD d)]) := ⟨by simp only [PyData.weight, PyData.weightAll]; omega, by simp only [PyData.depth, PyData.depthAll]; omega⟩
          refine ⟨q2, _, rfl, .lst k14 nq2 (.cons (.bl _) (.cons (.bl _) .nil)), fb, ?_⟩
          refine ⟨_, rfl, q, _, rfl, .lst ((e12.trans (e13.trans e14)) _ _ k11) nq (.cons (.bl _) (.cons (.bl _) .nil)), fb, rfl, _, rfl, ?_⟩
          rw [decide_eq_true (show V.str (PyData.shown (.list [.bool (isNameD d), .bool (isSignsD d)])) = V.str (PyData.shown (.list [.bool (isNameD d), .bool (isSignsD d)])) from rfl)]
          refine iteF ?_
          exact ⟨_, _, rfl, g8.trans (Stp.of_same g8.pot (e11.trans (e12.trans (e13.trans e14))))⟩
        · rintro σ H8 ⟨v3, v4, rfl, g8⟩
          exact ⟨_, _, _, rfl, g.trans g8⟩
      · rintro σ H7 ⟨v2, v3, v4, rfl, g⟩
        exact ⟨_, _, _, _, rfl, s6.trans g⟩
    · rintro σ H1 ⟨v1, v2, v3, v4, rfl, st1⟩
      exact k H1 st1
end
end Fs
namespace Fs
open PySem PySem.Spec PyProof.Rows L2 SlX
def dPair (p : Str × Str) : PyData := .tuple [.str p.1, .str p.2]
def dParts (ps : List (Str × Str)) : PyData := .tuple (ps.map dPair)
def okP (ps : List (Str × Str)) : Prop := ∀ p ∈ ps, nameL (cps p.1) = true ∧ signsL (cps p.2) = true
theorem okP_part {ps : List (Str × Str)} (h : okP ps) : ∀ e ∈ ps.map dPair, isPartD e = true := fun e he => by
  obtain ⟨p, hp, rfl⟩ := List.mem_map.mp he
  obtain ⟨h1, h2⟩ := h p hp
  show (nameL (cps p.1) && signsL (cps p.2)) = true
  rw [h1, h2]; rfl
theorem are_dParts {ps : List (Str × Str)} {n : Nat} (h : okP ps) (h1 : n ≤ ps.length) (h3 : ps.length ≤ 3) : arePartsD n (dParts ps) = true := by
  show (decide (n ≤ (ps.map dPair).length) && decide ((ps.map dPair).length ≤ 3) && (ps.map dPair).all isPartD) = true
  rw [List.length_map, decide_eq_true h1, decide_eq_true h3, List.all_eq_true.mpr (okP_part h)]; rfl
theorem names_dParts (ps : List (Str × Str)) : namesD (dParts ps) = ps.map (·.1) := by
  show (ps.map dPair).map nameOf = _
  rw [List.map_map]; rfl
theorem good_streams {m : Nat} {ps qs : List (Str × Str)} (g : Good m ps qs) (hm : m ≤ 3) : areStreamsD (dParts ps) (dParts qs) = true := by
  unfold areStreamsD
  have h1 : okP ps := fun p hp => g.ok p (List.mem_append_left _ hp)
  have h2 : okP qs := fun p hp => g.ok p (List.mem_append_right _ hp)
  have := g.le1
  have := g.le2
  have nd := g.nd
  rw [List.map_append] at nd
  rw [are_dParts h1 g.one (by omega), are_dParts h2 (Nat.zero_le _) (by omega), names_dParts, names_dParts, decide_eq_true nd]; rfl
theorem pot_tup {H : Hp} {a q : Addr} {ys : List V} (h : Pot H a) (e : H q = some (.tup ys)) : hid a H q = some (.tup ys) := by
  obtain ⟨p0, p1, p2, e0, _⟩ := h.ex
  rw [hid_ne (ne_of e e0 (by intro z; cases z))]; exact e
theorem pairs_dx {H : Hp} {a : Addr} (hp : Pot H a) : ∀ {as : List Addr} {ps : List (Str × Str)}, Paired (PairAt H) as ps → okP ps → DxAll (hid a H) (as.map V.ref) (ps.map dPair)
  | _, _, .nil, _ => .nil
  | _, _, .cons r t, h => by
    obtain ⟨h1, h2⟩ := h _ (List.mem_cons_self ..)
    exact .cons (.tup (pot_tup hp r) (.cons (.str _ ((lo_name h1).tok (by decide))) (.cons (.str _ ((lo_signs h2).tok (by decide))) .nil))) (pairs_dx hp t fun p hp => h p (List.mem_cons_of_mem _ hp))
theorem parts_dx {H : Hp} {a t : Addr} {ps : List (Str × Str)} (hp : Pot H a) (h : PartsT H t ps) (ok : okP ps) : Dx (hid a H) (.ref t) (dParts ps) := by
  obtain ⟨as, e, pr⟩ := h
  exact .tup (pot_tup hp e) (pairs_dx hp pr ok)
theorem fit_dParts {ps : List (Str × Str)} (ok : okP ps) (h : ps.length ≤ 3) : Fit 10000 8 (dParts ps) := by
  have := fit_parts (ps.map dPair) (okP_part ok)
  rw [List.length_map] at this
  exact this.tup.le
/-- a value near the parts, or the parts -/
theorem slt_mono {H H' : Hp} {a C dx : Addr} {vs : List (Option V)} (h : Slt H a C dx vs) (e : Same H H') : Slt H' a C dx vs := by
  rcases h with ⟨h1, h2⟩ | ⟨h1, h2⟩
  · exact .inl ⟨e _ _ h1, h2⟩
  · exact .inr ⟨e _ _ h1, e _ _ h2⟩
theorem near_or {a : Addr} {H : Hp} {σ : L2.St} {i : Nat} {turn : Int} {v : V} {d : PyData} {G : V → Hp → Prop} (h0 : σ[0]? = some (some (.ref a))) (h3 : σ[3]? = some (some (.int turn))) (hi : σ[i]? = some (some v)) (hp : Pot H a) (dx : Dx (hid a H) v d) (pr : arePartsD 0 d = true) (ft : Fit 10000 8 d)
    (k : ∀ (v' : V) (d' : PyData) (H' : Hp), Dx (hid a H') v' d' → Fit 10000 8 d' → Stp a H H' → G v' H') :
    tIf (tAnd (tTest (tOp (rI0 fun i j => .bl (decide (j < i))) (tVar 3) (tC (.int 0)))) (tTest (tOp (rI0 fun i j => .bl (decide (j < i))) (tCallS spDip (fun _ => E0) (tCons (tVar 0) (tCons (tC (.int 3)) tNil))) (tC (.int 0)))))
      (tCallS spNear (fun _ => E0) (tCons (tVar 0) (tCons (tVar i) tNil))) (tVar i) σ H G := by
  refine ⟨_, h3, _, _, rfl, rfl, _, rfl, ?_⟩
  refine ite2 (fun _ => ?_) (fun _ => ?_)
  · refine ⟨_, h0, a, 3, rfl, hp, by decide, by decide, fun r H1 r0 r1 st1 => ⟨_, _, rfl, rfl, _, rfl, ?_⟩⟩
    refine ite2 (fun _ => ?_) (fun _ => ?_)
    · exact ⟨_, h0, _, hi, a, v, d, rfl, st1.pot, dx.le st1.same, pr, fun v' d' H' g1 g2 g3 => k v' d' H' g1 g2 (st1.trans g3)⟩
    · exact ⟨_, hi, k v d H1 (dx.le st1.same) ft st1⟩
  · refine iteF ?_
    exact ⟨_, hi, k v d H dx ft (Stp.refl hp)⟩
section
variable {P : Program} {w : World} {K : PySem.W.Frag} {mg : Str → Option Value} {base : Heap} {C S : Addr}
abbrev s_streams_right : Stmt := top 37
theorem sc_streams_right : FnScope ["pot", "sources", "sinks", "turn", "one", "other", "text", "due", "again", "found"] ["pot"] (defScope s_streams_right) := ⟨rfl, rfl, rfl, by decide +kernel, rfl, by decide +kernel, by decide +kernel⟩
theorem cal_streams_right (T : Bs mg) (Z : Sx K mg C S) (PS : PrX P w K mg base C "sources" 3) (PK : PrX P w K mg base C "sinks" 2) (D : Df K mg "_law_streams_right" s_streams_right ["pot"]) (C_dip : Cal P w K mg base 1 "_law_dip" spDip)
    (C_parts : Cal P w K mg base 5 "_law_parts" spParts) (C_near : Cal P w K mg base 4 "_law_near" spNear) (C_j_streams : Cal P w K mg base 4 "_law_are_streams" spStr) (C_met : Cal P w K mg base 7 "_law_met" (spMet C)) : Cal P w K mg base 8 "_law_streams_right" spOk := by
  refine D.cal sc_streams_right (fun vs H Q E h => ?_) (fun f cdv A outer s H vs Q E hr h => ?_)
  · obtain ⟨a, rfl, _⟩ := h
    rfl
  · obtain ⟨a, rfl, hp, k⟩ := h
    refine ⟨_, pss_cons (ps_asg (pc C_parts hr (pa_cons (pv 0) (pa_cons pe_int pa_nil))) (pg_lst rfl (pgs_cons (pg_name (i := 1) sc_streams_right.nd rfl (Or.inl rfl)) (pgs_cons (pg_name (i := 2) sc_streams_right.nd rfl (Or.inl rfl)) pgs_nil))))
      (pss_cons (ps_for PassesOwn.never rfl (pi_range1 (by rfl) T.z_range (pa_cons pe_int pa_nil)) (pg_name (i := 3) sc_streams_right.nd rfl (Or.inl rfl))
        (pss_cons (ps_set (i := 4) sc_streams_right.nd rfl (.inl rfl) (pe_ifExp (PW.pt (pw_and (pt_cmpR op_gt (pv 3) pe_int (nomark _)) (pw_and1 (pt_cmpR op_gt (pc C_dip hr (pa_cons (pv 0) (pa_cons pe_int pa_nil))) pe_int (nomark _))))) (pc C_near hr (pa_cons (pv 0) (pa_cons (pv 1) pa_nil))) (pv 1)))
        (pss_cons (ps_set (i := 5) sc_streams_right.nd rfl (.inl rfl) (pe_ifExp (PW.pt (pw_and (pt_cmpR op_gt (pv 3) pe_int (nomark _)) (pw_and1 (pt_cmpR op_gt (pc C_dip hr (pa_cons (pv 0) (pa_cons pe_int pa_nil))) pe_int (nomark _))))) (pc C_near hr (pa_cons (pv 0) (pa_cons (pv 2) pa_nil))) (pv 2)))
        (pss_cons (ps_par (i := 6) (j := 7) rfl sc_streams_right.nd rfl rfl (by decide) rfl rfl (pa_cons (pb (call_reprD hr) T.z_repr (pa_cons (pe_lstN (pa_cons (pv 4) (pa_cons (pv 5) pa_nil))) pa_nil)) (pa_cons (pc C_j_streams hr (pa_cons (pv 4) (pa_cons (pv 5) pa_nil))) pa_nil)) (by rfl))
        (pss_one (ps_for PassesOwn.never rfl (pi_range1 (by rfl) T.z_range (pa_cons pe_int pa_nil)) (pg_name (i := 8) sc_streams_right.nd rfl (Or.inl rfl))
          (pss_cons (ps_set (i := 9) sc_streams_right.nd rfl (.inl rfl) (pc C_met hr (pa_cons (pv 4) (pa_cons (pv 5) pa_nil))))
          (pss_cons (ps_if (PW.pt (pw_or (pt_cmpR op_ne (pe_cmpR op_notN (pv 9) pe_non (nomark _)) (pv 7) (nomark _)) (pw_or1 (pt_cmpR op_ne (pb (call_reprD hr) T.z_repr (pa_cons (pe_lstN (pa_cons (pv 4) (pa_cons (pv 5) pa_nil))) pa_nil)) (pv 6) (nomark _)))))
            (pss_one (ps_ret pe_bl))
            pss_nil)
          (pss_one (ps_if (PW.pt (pw_and (pt_val (pv 7)) (pw_and1 (pt_cmpR op_ne (pb (call_reprD hr) T.z_repr (pa_cons (pe_lstN (pa_cons (pe_prop PS Z.sc hr (pv 9)) (pa_cons (pe_prop PK Z.sc hr (pv 9)) pa_nil))) pa_nil)) (pv 6) (nomark _)))))
            (pss_one (ps_ret pe_bl))
            pss_nil))))))))))
      (pss_one (ps_ret (pc C_j_streams hr (pa_cons (pv 1) (pa_cons (pv 2) pa_nil)))))), ?_⟩
    refine ⟨_, rfl, a, 3, rfl, hp, by decide, by decide, fun q t1 t2 ps qs H1 g hq hl hps hqs st1 => ?_⟩
    refine ⟨q, _, rfl, SqL.of hl, rfl, _, _, rfl, _, _, rfl, rfl, ?_⟩
    have ok1 : okP ps := fun p hp => g.ok p (List.mem_append_left _ hp)
    have ok2 : okP qs := fun p hp => g.ok p (List.mem_append_right _ hp)
    have good := good_streams g (Nat.le_refl 3)
    have dx1 := parts_dx st1.pot hps ok1
    have dx2 := parts_dx st1.pot hqs ok2
    have ft1 := fit_dParts ok1 g.le1
    have ft2 := fit_dParts ok2 g.le2
    have ap1 := are_dParts (n := 0) ok1 (Nat.zero_le _) g.le1
    have ap2 := are_dParts (n := 0) ok2 (Nat.zero_le _) g.le2
    refine ⟨7, rfl, by decide, by decide, for_range (fun i σ H2 => ∃ v3 v4 v5 v6 v7 v8 v9 : Option V, σ = [some (.ref a), some (.ref t1), some (.ref t2), v3, v4, v5, v6, v7, v8, v9] ∧ Stp a H1 H2) ?_ ?_ ?_⟩
    · exact ⟨none, none, none, none, none, none, none, rfl, Stp.refl st1.pot⟩
    · rintro i σ H2 hi ⟨v3, v4, v5, v6, v7, v8, v9, rfl, s2⟩
      refine near_or (turn := 0 + (i : Int)) rfl rfl rfl s2.pot (dx1.le s2.same) ap1 ft1 fun u d H3 du fu st3 => ?_
      have s3 := s2.trans st3
      refine near_or (turn := 0 + (i : Int)) rfl rfl rfl s3.pot (dx2.le s3.same) ap2 ft2 fun v e H4 dv fv st4 => ?_
      have s4 := s3.trans st4
      have du4 := (du.le st4.same).le (hid_le a H4)
      have dv4 := dv.le (hid_le a H4)
      have fuv : Fit 100000 30 (.list [d, e]) := (FitA.cons fu (FitA.cons fv (FitA.nil (n := 0)))).lst.le
      refine ⟨_, rfl, _, rfl, by show 2 ≤ sizeLine; decide, fun p5 hp5 np5 => ?_⟩
      have k5 : (upd H4 p5 (.lst [u, v])) p5 = _ := upd_same
      have e5 : Same H4 (upd H4 p5 (.lst [u, v])) := same_upd (Same.refl H4) hp5
      generalize upd H4 p5 (.lst [u, v]) = H5 at k5 e5
      refine ⟨p5, _, rfl, .lst k5 np5 (.cons (du4.le e5) (.cons (dv4.le e5) .nil)), fuv, ?_⟩
      refine ⟨_, rfl, _, rfl, u, v, d, e, rfl, du4.le e5, dv4.le e5, fun H6 e6 => ⟨_, _, rfl, ?_⟩⟩
      have e46 := e5.trans e6
      refine ⟨2, rfl, by decide, by decide, for_range (fun n σ H7 => ∃ v8 v9 : Option V, σ = [some (.ref a), some (.ref t1), some (.ref t2), some (.int (0 + (i : Int))), some u, some v, some (.str (PyData.shown (.list [d, e]))), some (.bl (areStreamsD d e)), v8, v9] ∧ Same H4 H7) ?_ ?_ ?_⟩
      · exact ⟨v8, v9, rfl, e46⟩
      · rintro n σ H7 hn ⟨v8, v9, rfl, e7⟩
        have du7 := du4.le e7
        have dv7 := dv4.le e7
        have mk : ∀ {H8 : Hp} {p : Addr}, Same H4 H8 → H8 p = none → p ≠ sysModules → Dx (upd H8 p (.lst [u, v])) (.ref p) (.list [d, e]) := fun {H8 p} e8 hp np => by
          have s9 := same_upd (o := .lst [u, v]) (Same.refl H8) hp
          exact .lst upd_same np (.cons (du4.le (e8.trans s9)) (.cons (dv4.le (e8.trans s9)) .nil))
        have dtext : decide (V.str (PyData.shown (.list [d, e])) = V.str (PyData.shown (.list [d, e]))) = true := decide_eq_true rfl
        refine ⟨_, rfl, _, rfl, u, v, d, e, rfl, du7, dv7, fun c x dx H8 n1 n2 e8 _ sl => ?_, fun c H8 e8 => ?_⟩
        · have e48 := e7.trans e8
          refine ⟨_, rfl, rfl, _, rfl, rfl, _, rfl, ?_⟩
          rw [c]
          refine iteF ?_
          refine ⟨_, rfl, _, rfl, ?_⟩
          refine ⟨by show 2 ≤ sizeLine; decide, fun p9 hp9 np9 => ⟨p9, _, rfl, mk e48 hp9 np9, fuv, _, rfl, rfl, _, rfl, ?_⟩⟩
          have e9 := same_upd (o := .lst [u, v]) (Same.refl H8) hp9
          generalize upd H8 p9 (.lst [u, v]) = H9 at e9
          rw [dtext]
          refine iteF ?_
          refine ⟨_, rfl, _, rfl, ?_⟩
          refine iteT ?_
          have sl9 := slt_mono sl e9
          refine ⟨_, rfl, x, dx, _, rfl, sl9, x, dx, _, u, rfl, sl9, rfl, _, rfl, x, dx, _, rfl, sl9, x, dx, _, v, rfl, sl9, rfl, ?_⟩
          refine ⟨by show 2 ≤ sizeLine; decide, fun p10 hp10 np10 => ⟨p10, _, rfl, mk (e48.trans e9) hp10 np10, fuv, _, rfl, rfl, _, rfl, ?_⟩⟩
          have e10 := same_upd (o := .lst [u, v]) (Same.refl H9) hp10
          generalize upd H9 p10 (.lst [u, v]) = H10 at e10
          rw [dtext]
          refine iteF ?_
          exact ⟨_, _, rfl, (e48.trans e9).trans e10⟩
        · have e48 := e7.trans e8
          refine ⟨_, rfl, rfl, _, rfl, rfl, _, rfl, ?_⟩
          rw [c]
          refine iteF ?_
          refine ⟨_, rfl, _, rfl, ?_⟩
          refine ⟨by show 2 ≤ sizeLine; decide, fun p9 hp9 np9 => ⟨p9, _, rfl, mk e48 hp9 np9, fuv, _, rfl, rfl, _, rfl, ?_⟩⟩
          have e9 := same_upd (o := .lst [u, v]) (Same.refl H8) hp9
          generalize upd H8 p9 (.lst [u, v]) = H9 at e9
          rw [dtext]
          refine iteF ?_
          refine ⟨_, rfl, _, rfl, ?_⟩
          refine iteF ?_
          refine iteF ?_
          exact ⟨_, _, rfl, e48.trans e9⟩
      · rintro σ H7 ⟨v8, v9, rfl, e7⟩
        exact ⟨_, _, _, _, _, _, _, rfl, s4.trans (Stp.of_same s4.pot e7)⟩
    · rintro σ H2 ⟨v3, v4, v5, v6, v7, v8, v9, rfl, s2⟩
      refine ⟨_, rfl, _, rfl, _, _, _, _, rfl, (dx1.le s2.same).le (hid_le a H2), (dx2.le s2.same).le (hid_le a H2), fun H' e' => ?_⟩
      rw [good]
      exact k H' ((st1.trans s2).trans (Stp.of_same s2.pot e'))
end
end Fs
namespace Fs
open PySem PySem.Spec PyProof.Rows L2 SlX
def qIsN : R2 := fun x y H Q => y = .non ∧ Q (.bl (decide (x = .non))) H
theorem same_hid {a : Addr} {H H' : Hp} (e : Same H H') (h : H a = none) : Same H (hid a H') := fun b o q => by
  rw [hid_ne (ne_of_none q h)]; exact e b o q
theorem pairs_dx0 {H : Hp} : ∀ {as : List Addr} {ps : List (Str × Str)}, Paired (PairAt H) as ps → okP ps → DxAll H (as.map V.ref) (ps.map dPair)
  | _, _, .nil, _ => .nil
  | _, _, .cons r t, h => by
    obtain ⟨h1, h2⟩ := h _ (List.mem_cons_self ..)
    exact .cons (.tup r (.cons (.str _ ((lo_name h1).tok (by decide))) (.cons (.str _ ((lo_signs h2).tok (by decide))) .nil))) (pairs_dx0 t fun p hp => h p (List.mem_cons_of_mem _ hp))
def four : List (Str × Str) := [("p", "a"), ("q", "a"), ("r", "a"), ("s", "a")]
def four' (i : Nat) : PyData := .tuple ((four.map dPair).take i)
def three : PyData := dParts [("t", "z"), ("u", "yz"), ("v", "b")]
section
variable {P : Program} {w : World} {K : PySem.W.Frag} {mg : Str → Option Value} {base : Heap} {C S : Addr}
theorem fun_fng {x : Str} {st : Stmt} {N ps : List Str} {k : Nat} {sp : Sp} {f : Addr} {fd : FuncData} (F : L2.Fun K x x st f fd) (S : FnScope N ps (defScope st)) (lens : ∀ vs H Q E, sp vs H Q E → vs.length = ps.length)
    (body : ∀ (cdv : Value) (A : Around) (outer : List Env) (s : Shared) (H : Hp) (vs : List V) (Q : VK) (E : XK), Rm k (A.deeper (envOfC x (defScope st) s.heap.objs.size f cdv)) → sp vs H Q E →
      ∃ t, PSs (cxOf CX0 P w K mg base N x (defScope st) f cdv A outer s H E).nox (defBody st) t ∧ t { nx := fun _ H' => Q .non H', rt := Q } (start N vs) H) : FnG P w K mg base CX0 (k + 1) f fd ps sp := by
  refine FnG.by F S lens (fun cdv A outer s H vs Q E room guards want => ?_)
  obtain ⟨t, d, r⟩ := body cdv A outer s H vs Q E ⟨room, guards⟩ want
  exact ⟨t, d.nox, r⟩
/-- an exception of a class is what the class names -/
theorem exm_self {S : Addr} (h1 : PySem.W.subIn K (.ref S) (.type "BaseException") = some true) (h2 : PySem.W.isClsIn K S = true) (h3 : PySem.W.typeIn K (.ref S) = some (.type "type")) (h4 : PySem.W.subIn K (.ref S) (.ref S) = some true) : PySem.W.exmOne K (.ref S) (.ref S) = some true := by
  have e1 : (PySem.W.subIn K (.ref S) (.type "BaseException") == some true) = true := by rw [h1]; rfl
  have e2 : ((PySem.W.clsIn K S).isSome && PySem.W.typeIn K (.ref S) == some (.type "type")) = true := by
    have h5 : (PySem.W.clsIn K S).isSome = true := h2
    rw [h5, h3]; rfl
  show (if (PySem.W.subIn K (.ref S) (.type "BaseException") == some true) = true then (if ((PySem.W.clsIn K S).isSome && PySem.W.typeIn K (.ref S) == some (.type "type")) = true then PySem.W.subIn K (.ref S) (.ref S) else none) else none) = some true
  rw [if_pos e1, if_pos e2, h4]
def spLaw (K : PySem.W.Frag) : Sp := fun vs H Q _ => ∃ (p : Addr) (ns : List Int), vs = [.ref p] ∧ SqL K H p (ns.map V.int) ∧ ns.length ≤ 63 ∧ ∀ H', Q (.bl true) H'
abbrev s_law : Stmt := top 38
theorem sc_law : FnScope ["script", "at", "pot", "four", "told", "name", "one"] ["script"] (defScope s_law) := ⟨rfl, rfl, rfl, by decide +kernel, rfl, by decide +kernel, by decide +kernel⟩
theorem fng_law {f : Addr} {fd : FuncData} (T : Bs mg) (G : Gs mg) (F : L2.Fun K "law" "law" s_law f fd) (C_filled : Cal P w K mg base 1 "_law_filled" (spFilled K)) (C_texts_right : Cal P w K mg base 4 "_law_texts_right" spOk) (C_streams_right : Cal P w K mg base 8 "_law_streams_right" spOk)
    (C_met : Cal P w K mg base 7 "_law_met" (spMet C)) : FnG P w K mg base CX0 9 f fd ["script"] (spLaw K) := by
  refine fun_fng F sc_law (fun vs H Q E h => ?_) (fun cdv A outer s H vs Q E hr h => ?_)
  · obtain ⟨p, ns, rfl, _⟩ := h
    rfl
  · obtain ⟨p, ns, rfl, hp, hl, k⟩ := h
    refine ⟨_, pss_cons (ps_for PassesOwn.never rfl (pi_range1 (by rfl) T.z_range (pa_cons (pb (call_max2 rfl) T.z_max (pa_cons pe_int (pa_cons (pb (call_min2 rfl) T.z_min (pa_cons pe_int (pa_cons (pb call_len3 T.z_len (pa_cons (pv 0) pa_nil)) pa_nil))) pa_nil))) pa_nil)) (pg_name (i := 1) sc_law.nd rfl (Or.inl rfl))
        (pss_cons (ps_set (i := 2) sc_law.nd rfl (.inl rfl) (pc C_filled hr (pa_cons (pv 0) (pa_cons (pv 1) pa_nil))))
        (pss_one (ps_if (PW.pt (pw_or (pt_not (pt_val (pc C_texts_right hr (pa_cons (pv 2) pa_nil)))) (pw_or1 (pt_not (pt_val (pc C_streams_right hr (pa_cons (pv 2) pa_nil)))))))
          (pss_one (ps_ret pe_bl))
          pss_nil))))
      (pss_cons (ps_set (i := 3) sc_law.nd rfl (.inl rfl) (pt call_tuple_of T.z_tuple (pa_cons (pe_lc (own := [("name", 5)]) (te := (tTup (tCons (tVar 5) (tCons (tC (.str "a")) tNil)))) rfl sc_law.nd (pi_tup (pe_tup (pa_cons pe_str (pa_cons pe_str (pa_cons pe_str (pa_cons pe_str pa_nil)))))) (blkOk_by (N := ["script", "at", "pot", "four", "told", "name", "one"]) (sc := defScope s_law) (by decide +kernel)) (fun _ _ _ _ _ => (pg_name (i := 5) sc_law.nd rfl (Or.inl rfl))) (fun _ _ _ _ _ => pts_nil) (fun _ _ _ _ _ => (pe_tup (pa_cons (pv 5) (pa_cons pe_str pa_nil))))) pa_nil)))
      (pss_cons (ps_set (i := 4) sc_law.nd rfl (.inl rfl) (pe_lstN (pa_cons (pc C_met hr (pa_cons (pe_slice sl_tupA (pv 3) po_none (po_some pe_int)) (pa_cons (pe_slice sl_tupA (pv 3) po_none (po_some pe_int)) pa_nil))) (pa_cons (pc C_met hr (pa_cons (pe_slice sl_tupA (pv 3) po_none (po_some pe_int)) (pa_cons (pe_tup (pa_cons (pe_tup (pa_cons pe_str (pa_cons pe_str pa_nil))) (pa_cons (pe_tup (pa_cons pe_str (pa_cons pe_str pa_nil))) (pa_cons (pe_tup (pa_cons pe_str (pa_cons pe_str pa_nil))) pa_nil)))) pa_nil))) (pa_cons (pc C_met hr (pa_cons (pv 3) (pa_cons (pe_tup pa_nil) pa_nil))) pa_nil)))))
      (pss_cons (ps_set (i := 4) sc_law.nd rfl (.inl rfl) (pe_op op_cat (pv 4) (pe_lstN (pa_cons (pc C_met hr (pa_cons (pe_slice sl_tupA (pv 3) po_none (po_some pe_int)) (pa_cons (pe_slice sl_tupA (pv 3) po_none (po_some pe_int)) pa_nil))) (pa_cons (pc C_met hr (pa_cons (pe_slice sl_tupA (pv 3) po_none (po_some pe_int)) (pa_cons (pv 3) pa_nil))) (pa_cons (pc C_met hr (pa_cons (pe_tup pa_nil) (pa_cons (pe_slice sl_tupA (pv 3) po_none (po_some pe_int)) pa_nil))) pa_nil))))))
      (pss_cons (ps_expr (pe_bm PySem.F.plainAttrs_list PySem.F.slot_list_append PySem.F.type_list_append mt_append (pv 4) (pa_cons (pc C_met hr (pa_cons (pe_slice sl_tupA (pv 3) po_none (po_some pe_int)) (pa_cons pe_non pa_nil))) pa_nil)))
      (pss_one (ps_ret (pe_and (pe_cmpR (op_eqD hr.rm.units) (pe_lc (own := [("one", 6)]) (te := (tOp qIsN (tVar 6) (tC .non))) rfl sc_law.nd (pi_list (pv 4)) (blkOk_by (N := ["script", "at", "pot", "four", "told", "name", "one"]) (sc := defScope s_law) (by decide +kernel)) (fun _ _ _ _ _ => (pg_name (i := 6) sc_law.nd rfl (Or.inl rfl))) (fun _ _ _ _ _ => pts_nil) (fun _ _ _ _ _ => (pe_cmpR op_isN (pv 6) pe_non (nomark _)))) (pe_lstN (pa_cons pe_bl (pa_cons pe_bl (pa_cons pe_bl (pa_cons pe_bl (pa_cons pe_bl (pa_cons pe_bl (pa_cons pe_bl pa_nil)))))))) (nomark _)) (pe_one (pe_cmpR op_eq (pe_gint G.g_MAX_WORD) pe_int (nomark _)))))))))), ?_⟩
    have hl' : (ns.map V.int).length = ns.length := List.length_map ..
    refine ⟨_, rfl, _, _, rfl, .inl ⟨p, rfl, .inl hp⟩, _, _, rfl, _, _, rfl, _, rfl, ?_, ?_, for_range (fun i σ H1 => ∃ v1 v2 : Option V, σ = [some (.ref p), v1, v2, none, none, none, none] ∧ Same H H1) ?_ ?_ ?_⟩
    · split <;> split <;> omega
    · split <;> split <;> omega
    · exact ⟨none, none, rfl, Same.refl H⟩
    · rintro i σ H1 hi ⟨v1, v2, rfl, e1⟩
      have hi6 : i < 7 := by
        rw [hl'] at hi
        split at hi <;> split at hi <;> omega
      refine ⟨_, rfl, _, rfl, p, ns, 0 + (i : Int), rfl, e1.seq hp, by omega, by omega, fun a H2 ha pa e2 => ?_⟩
      have h2 := same_hid e2 ha
      refine ⟨_, rfl, a, rfl, pa, fun H3 s3 => ⟨_, rfl, ?_⟩⟩
      refine iteF ?_
      refine ⟨_, rfl, a, rfl, s3.pot, fun H4 s4 => ⟨_, rfl, ?_⟩⟩
      refine iteF ?_
      exact ⟨_, _, rfl, e1.trans (((h2.trans s3.same).trans s4.same).trans (hid_le a H4))⟩
    · rintro σ H1 ⟨v1, v2, rfl, e1⟩
      refine ⟨by show 4 ≤ sizeLine; decide, fun q1 hq1 => ?_⟩
      have k1 : (upd H1 q1 (.tup [.str "p", .str "q", .str "r", .str "s"])) q1 = _ := upd_same
      generalize upd H1 q1 (.tup [.str "p", .str "q", .str "r", .str "s"]) = H2 at k1
      refine ⟨q1, rfl, ⟨_, SqT.of k1⟩, fun D hD => ?_⟩
      refine lc_tup (K := K) (a := q1) (xs := [.str "p", .str "q", .str "r", .str "s"]) (fun i H3 => Same H2 H3 ∧ ∃ as : List Addr, H3 D = some (.lst (as.map V.ref)) ∧ Paired (PairAt H3) as (four.take i)) ?_ ?_ ?_ ?_
      · exact ⟨same_upd (Same.refl H2) hD, [], upd_same, .nil⟩
      · rintro i H3 _ ⟨g, _⟩
        exact SqT.of (g _ _ k1)
      · rintro i x H3 hx ⟨g, as, g1, g2⟩
        obtain ⟨nm, hnm, rfl⟩ : ∃ nm : Str, four[i]? = some ((nm, "a") : Str × Str) ∧ x = .str nm := by
          match i, hx with
          | 0, hx => cases hx; exact ⟨_, rfl, rfl⟩
          | 1, hx => cases hx; exact ⟨_, rfl, rfl⟩
          | 2, hx => cases hx; exact ⟨_, rfl, rfl⟩
          | 3, hx => cases hx; exact ⟨_, rfl, rfl⟩
        have hi : i < 4 := (List.getElem?_eq_some_iff.mp hnm).1
        refine ⟨rfl, _, rfl, by show 2 ≤ sizeLine; decide, fun t ht => ?_⟩
        have htD : D ≠ t := ne_of_none g1 ht
        have lg := paired_len g2
        have lt : (four.take i).length ≤ i := List.length_take_le ..
        refine ⟨_, keep g1 ht, by rw [List.length_map, sizeLine_eq]; omega, same_mut (same_upd g ht) hD, as ++ [t], by rw [upd_same, List.map_append]; rfl, ?_⟩
        rw [take_snoc hnm]
        refine paired_snoc (L2.Paired.mapP g2 fun b pr hb => ?_) ?_
        · show (upd _ D _) b = _
          have hbD : b ≠ D := ne_of hb g1 (by intro z; cases z)
          rw [upd_ne hbD, upd_ne (ne_of_none hb ht)]; exact hb
        · show (upd _ D _) t = _
          rw [upd_ne htD.symm, upd_same]
      rintro H3 ⟨g, as, g1, g2⟩
      have g2 : Paired (PairAt H3) as four := g2
      have lg : as.length = 4 := paired_len g2
      refine ⟨D, _, rfl, .inl ⟨SqL.of g1, fun t4 ht4 => ?_⟩⟩
      have e4 := same_upd (o := .tup (as.map V.ref)) (Same.refl H3) ht4
      have k4 : (upd H3 t4 (.tup (as.map V.ref))) t4 = _ := upd_same
      generalize upd H3 t4 (.tup (as.map V.ref)) = H4 at k4 e4
      have dx : DxAll H4 (as.map V.ref) (four.map dPair) := (pairs_dx0 g2 (by unfold okP; decide +kernel)).le e4
      have sl : ∀ {H5 : Hp} {t : Addr} {i : Nat}, Same H4 H5 → H5 t = some (.tup (cutV (as.map V.ref) none (some (i : Int)))) → Dx H5 (.ref t) (four' i) := fun {H5 t i} e h => by
        rw [cutV_to _ _ (by omega), show ((i : Int)).toNat = i by omega] at h
        exact .tup h ((dx.le e).take i)
      have s4 := Same.refl H4
      refine ⟨_, rfl, _, rfl, ?_⟩
      refine sl_get (s4 _ _ k4) fun ta H5 e5 hta => ?_
      have s5 := s4.trans e5
      have dta := sl (i := 3) s5 hta
      refine ⟨_, rfl, _, rfl, ?_⟩
      refine sl_get (s5 _ _ k4) fun tb H6 e6 htb => ?_
      have s6 := s5.trans e6
      have dtb := sl (i := 0) s6 htb
      refine ⟨_, _, _, _, rfl, dta.le e6, dtb, fun _ x1 _ H7 _ _ e7 _ _ => ?_, fun c => absurd (show areStreamsD (four' 3) (four' 0) = true by decide +kernel) (by rw [c]; exact Bool.false_ne_true)⟩
      have s7 := s6.trans e7
      refine ⟨_, rfl, _, rfl, ?_⟩
      refine sl_get (s7 _ _ k4) fun tc H8 e8 htc => ?_
      have s8 := s7.trans e8
      have dtc := sl (i := 3) s8 htc
      refine ⟨by show 2 ≤ sizeLine; decide, fun r1 hr1 => ⟨by show 2 ≤ sizeLine; decide, fun r2 hr2 => ⟨by show 2 ≤ sizeLine; decide, fun r3 hr3 => ⟨by show 3 ≤ sizeLine; decide, fun r4 hr4 => ?_⟩⟩⟩⟩
      have c1 : PairAt (upd H8 r1 (.tup [.str "t", .str "z"])) r1 ("t", "z") := upd_same
      have m1 := same_upd (o := .tup [.str "t", .str "z"]) (Same.refl H8) hr1
      generalize upd H8 r1 (.tup [.str "t", .str "z"]) = G1 at c1 m1 hr2 hr3 hr4
      have c2 : PairAt (upd G1 r2 (.tup [.str "u", .str "yz"])) r2 ("u", "yz") := upd_same
      have m2 := same_upd (o := .tup [.str "u", .str "yz"]) (Same.refl G1) hr2
      generalize upd G1 r2 (.tup [.str "u", .str "yz"]) = G2 at c2 m2 hr3 hr4
      have c3 : PairAt (upd G2 r3 (.tup [.str "v", .str "b"])) r3 ("v", "b") := upd_same
      have m3 := same_upd (o := .tup [.str "v", .str "b"]) (Same.refl G2) hr3
      generalize upd G2 r3 (.tup [.str "v", .str "b"]) = G3 at c3 m3 hr4
      have c4 : (upd G3 r4 (.tup [.ref r1, .ref r2, .ref r3])) r4 = _ := upd_same
      have m4 := same_upd (o := .tup [.ref r1, .ref r2, .ref r3]) (Same.refl G3) hr4
      generalize upd G3 r4 (.tup [.ref r1, .ref r2, .ref r3]) = H9 at c4 m4
      have e9 := ((m1.trans m2).trans m3).trans m4
      have s9 := s8.trans e9
      have d3 : Dx H9 (.ref r4) three := .tup c4 ((pairs_dx0 (as := [r1, r2, r3]) (ps := [("t", "z"), ("u", "yz"), ("v", "b")]) (.cons (m3 _ _ (m2 _ _ c1)) (.cons (m3 _ _ c2) (.cons c3 .nil))) (by unfold okP; decide +kernel)).le m4)
      refine ⟨_, _, _, _, rfl, dtc.le e9, d3, fun _ x2 _ H10 _ _ e10 _ _ => ?_, fun c => absurd (show areStreamsD (four' 3) three = true by decide +kernel) (by rw [c]; exact Bool.false_ne_true)⟩
      have s10 := s9.trans e10
      refine ⟨_, rfl, by show 0 ≤ sizeLine; decide, fun r5 hr5 => ?_⟩
      have c5 : (upd H10 r5 (.tup [])) r5 = _ := upd_same
      have e11 := same_upd (o := .tup []) (Same.refl H10) hr5
      generalize upd H10 r5 (.tup []) = H11 at c5 e11
      have s11 := s10.trans e11
      have dfour : ∀ {G : Hp}, Same H4 G → Dx G (.ref t4) (dParts four) := fun e => .tup (e _ _ k4) (dx.le e)
      refine ⟨_, _, _, _, rfl, dfour s11, (.tup c5 .nil), fun c => absurd (show areStreamsD (dParts four) (.tuple []) = false by decide +kernel) (by rw [c]; exact fun z => Bool.false_ne_true z.symm), fun _ H12 e12 => ?_⟩
      have s12 := s11.trans e12
      refine ⟨by show 3 ≤ sizeLine; decide, fun l1 hl1 _ => ?_⟩
      have f1 : (upd H12 l1 (.lst [.ref x1, .ref x2, .non])) l1 = _ := upd_same
      have e13 := same_upd (o := .lst [.ref x1, .ref x2, .non]) (Same.refl H12) hl1
      generalize upd H12 l1 (.lst [.ref x1, .ref x2, .non]) = H13 at f1 e13
      have s13 := s12.trans e13
      refine ⟨_, rfl, ?_⟩
      refine ⟨_, rfl, _, rfl, ?_⟩
      refine sl_get (s13 _ _ k4) fun td H14 e14 htd => ?_
      have s14 := s13.trans e14
      have dtd := sl (i := 1) s14 htd
      refine ⟨_, rfl, _, rfl, ?_⟩
      refine sl_get (s14 _ _ k4) fun te H15 e15 hte => ?_
      have s15 := s14.trans e15
      have dte := sl (i := 1) s15 hte
      refine ⟨_, _, _, _, rfl, dtd.le e15, dte, fun c => absurd (show areStreamsD (four' 1) (four' 1) = false by decide +kernel) (by rw [c]; exact fun z => Bool.false_ne_true z.symm), fun _ H16 e16 => ?_⟩
      have s16 := s15.trans e16
      refine ⟨_, rfl, _, rfl, ?_⟩
      refine sl_get (s16 _ _ k4) fun tf H17 e17 htf => ?_
      have s17 := s16.trans e17
      have dtf := sl (i := 1) s17 htf
      refine ⟨_, rfl, ?_⟩
      refine ⟨_, _, _, _, rfl, dtf, dfour s17, fun c => absurd (show areStreamsD (four' 1) (dParts four) = false by decide +kernel) (by rw [c]; exact fun z => Bool.false_ne_true z.symm), fun _ H18 e18 => ?_⟩
      have s18 := s17.trans e18
      refine ⟨by show 0 ≤ sizeLine; decide, fun r6 hr6 => ?_⟩
      have c6 : (upd H18 r6 (.tup [])) r6 = _ := upd_same
      have e19 := same_upd (o := .tup []) (Same.refl H18) hr6
      generalize upd H18 r6 (.tup []) = H19 at c6 e19
      have s19 := s18.trans e19
      refine ⟨_, rfl, _, rfl, ?_⟩
      refine sl_get (s19 _ _ k4) fun tg H20 e20 htg => ?_
      have s20 := s19.trans e20
      have dtg := sl (i := 1) s20 htg
      refine ⟨_, _, _, _, rfl, (Dx.tup (e20 _ _ c6) .nil), dtg, fun c => absurd (show areStreamsD (.tuple []) (four' 1) = false by decide +kernel) (by rw [c]; exact fun z => Bool.false_ne_true z.symm), fun _ H21 e21 => ?_⟩
      have s21 := s20.trans e21
      refine ⟨by show 3 ≤ sizeLine; decide, fun l2 hl2 _ => ?_⟩
      have f2 : (upd H21 l2 (.lst [.non, .non, .non])) l2 = _ := upd_same
      have e22 := same_upd (o := .lst [.non, .non, .non]) (Same.refl H21) hl2
      generalize upd H21 l2 (.lst [.non, .non, .non]) = H22 at f2 e22
      have s22 := s21.trans e22
      have f1' := ((((((((e14.trans e15).trans e16).trans e17).trans e18).trans e19).trans e20).trans e21).trans e22) _ _ f1
      refine ⟨l1, l2, _, _, rfl, rfl, f1', f2, by show 3 + 3 ≤ sizeLine; decide, fun l3 hl3 => ?_⟩
      have f3 : (upd H22 l3 (.lst ([.ref x1, .ref x2, .non] ++ [.non, .non, .non]))) l3 = _ := upd_same
      have e23 := same_upd (o := .lst ([.ref x1, .ref x2, .non] ++ [.non, .non, .non])) (Same.refl H22) hl3
      generalize upd H22 l3 (.lst ([.ref x1, .ref x2, .non] ++ [.non, .non, .non])) = H23 at f3 e23
      have s23 := s22.trans e23
      refine ⟨_, rfl, .inl ⟨rfl, _, SqL.of f3⟩, ?_⟩
      refine ⟨_, rfl, _, rfl, ?_⟩
      refine sl_get (s23 _ _ k4) fun th H24 e24 hth => ?_
      have s24 := s23.trans e24
      have dth := sl (i := 2) s24 hth
      refine ⟨_, _, _, _, rfl, dth, .non, fun c => absurd (show areStreamsD (four' 2) .none = false by decide +kernel) (by rw [c]; exact fun z => Bool.false_ne_true z.symm), fun _ H25 e25 => ?_⟩
      have s25 := s24.trans e25
      refine ⟨l3, _, _, rfl, rfl, (e24.trans e25) _ _ f3, by show 6 < sizeLine; decide, ?_⟩
      have f4 : (upd H25 l3 (.lst ([.ref x1, .ref x2, .non] ++ [.non, .non, .non] ++ [.non]))) l3 = _ := upd_same
      generalize upd H25 l3 (.lst ([.ref x1, .ref x2, .non] ++ [.non, .non, .non] ++ [.non])) = HZ at f4
      refine ⟨_, rfl, l3, rfl, ⟨_, SqL.of f4⟩, fun D2 hD2 => ?_⟩
      refine lc_list (K := K) (a := l3) (xs := [.ref x1, .ref x2, .non, .non, .non, .non, .non]) (fun i HY => Same HZ HY ∧ HY D2 = some (.lst (([V.ref x1, .ref x2, .non, .non, .non, .non, .non].take i).map fun v => V.bl (decide (v = .non))))) ?_ ?_ ?_ ?_
      · exact ⟨same_upd (Same.refl HZ) hD2, upd_same⟩
      · rintro i HY _ ⟨y1, _⟩
        exact SqL.of (y1 _ _ f4)
      · rintro i x HY hx ⟨y1, y2⟩
        refine ⟨rfl, _, rfl, rfl, _, y2, ?_, same_mut y1 hD2, ?_⟩
        · have h9 : ([V.ref x1, .ref x2, .non, .non, .non, .non, .non].take i).length ≤ 7 := List.length_take_le' ..
          rw [List.length_map, sizeLine_eq]; omega
        · rw [upd_same, take_snoc hx, List.map_append]; rfl
      rintro HY ⟨y1, y2⟩
      refine ⟨by show 7 ≤ sizeLine; decide, fun l5 hl5 _ => ?_⟩
      have y3 := keep (x := .lst [.bl false, .bl false, .bl true, .bl true, .bl true, .bl true, .bl true]) y2 hl5
      refine ⟨.list [.bool false, .bool false, .bool true, .bool true, .bool true, .bool true, .bool true], .list [.bool false, .bool false, .bool true, .bool true, .bool true, .bool true, .bool true],
        .lst (SqL.of y3) (.cons (.bl _) (.cons (.bl _) (.cons (.bl _) (.cons (.bl _) (.cons (.bl _) (.cons (.bl _) (.cons (.bl _) .nil))))))), .lst (SqL.of upd_same) (.cons (.bl _) (.cons (.bl _) (.cons (.bl _) (.cons (.bl _) (.cons (.bl _) (.cons (.bl _) (.cons (.bl _) .nil))))))),
        by decide +kernel, by decide +kernel, _, rfl, ?_⟩
      rw [show PyData.eqv (.list [.bool false, .bool false, .bool true, .bool true, .bool true, .bool true, .bool true]) (.list [.bool false, .bool false, .bool true, .bool true, .bool true, .bool true, .bool true]) = true by decide +kernel]
      refine iteT ?_
      exact ⟨rfl, k _⟩
end
end Fs
namespace Fs
open PySem PySem.Spec PyProof.Rows L2 SlX
theorem all_mk {l : PySem.W.OpenLaw} {w : World} {K : PySem.W.Frag} {h : Heap} {mg : Str → Option Value} {fa : Addr} (X : K.In h) (G : h.Ns mainGlobals mg) (hfa : mg "law" = some (.ref fa))
    {f_dip f_choose f_shuffled f_name f_free f_names f_signs f_parts f_filled f_p_name f_p_signs f_p_part f_p_parts f_p_streams f_j_letters f_j_name f_j_signs f_j_parts f_j_streams f_odd_text f_near f_met f_texts_right f_streams_right f_law C S p0 p1 p2 p3 q0 q1 f_init f_sources f_sinks : Addr}
    {od_dip : Option Addr} {an_dip : Option Addr} {sl_dip : Array (Option Value)} {oc_dip kv_dip dc_dip pm_dip cd_dip ct_dip : Value} {od_choose : Option Addr} {an_choose : Option Addr} {sl_choose : Array (Option Value)} {oc_choose kv_choose dc_choose pm_choose cd_choose ct_choose : Value}
    {od_shuffled : Option Addr} {an_shuffled : Option Addr} {sl_shuffled : Array (Option Value)} {oc_shuffled kv_shuffled dc_shuffled pm_shuffled cd_shuffled ct_shuffled : Value} {od_name : Option Addr} {an_name : Option Addr} {sl_name : Array (Option Value)} {oc_name kv_name dc_name pm_name cd_name ct_name : Value}
    {od_free : Option Addr} {an_free : Option Addr} {sl_free : Array (Option Value)} {oc_free kv_free dc_free pm_free cd_free ct_free : Value} {od_names : Option Addr} {an_names : Option Addr} {sl_names : Array (Option Value)} {oc_names kv_names dc_names pm_names cd_names ct_names : Value}
    {od_signs : Option Addr} {an_signs : Option Addr} {sl_signs : Array (Option Value)} {oc_signs kv_signs dc_signs pm_signs cd_signs ct_signs : Value} {od_parts : Option Addr} {an_parts : Option Addr} {sl_parts : Array (Option Value)} {oc_parts kv_parts dc_parts pm_parts cd_parts ct_parts : Value}
    {od_filled : Option Addr} {an_filled : Option Addr} {sl_filled : Array (Option Value)} {oc_filled kv_filled dc_filled pm_filled cd_filled ct_filled : Value} {od_p_name : Option Addr} {an_p_name : Option Addr} {sl_p_name : Array (Option Value)} {oc_p_name kv_p_name dc_p_name pm_p_name cd_p_name ct_p_name : Value}
    {od_p_signs : Option Addr} {an_p_signs : Option Addr} {sl_p_signs : Array (Option Value)} {oc_p_signs kv_p_signs dc_p_signs pm_p_signs cd_p_signs ct_p_signs : Value} {od_p_part : Option Addr} {an_p_part : Option Addr} {sl_p_part : Array (Option Value)} {oc_p_part kv_p_part dc_p_part pm_p_part cd_p_part ct_p_part : Value}
    {od_p_parts : Option Addr} {an_p_parts : Option Addr} {sl_p_parts : Array (Option Value)} {oc_p_parts kv_p_parts dc_p_parts pm_p_parts cd_p_parts ct_p_parts : Value} {od_p_streams : Option Addr} {an_p_streams : Option Addr} {sl_p_streams : Array (Option Value)} {oc_p_streams kv_p_streams dc_p_streams pm_p_streams cd_p_streams ct_p_streams : Value}
    {od_j_letters : Option Addr} {an_j_letters : Option Addr} {sl_j_letters : Array (Option Value)} {oc_j_letters kv_j_letters dc_j_letters pm_j_letters cd_j_letters ct_j_letters : Value} {od_j_name : Option Addr} {an_j_name : Option Addr} {sl_j_name : Array (Option Value)} {oc_j_name kv_j_name dc_j_name pm_j_name cd_j_name ct_j_name : Value}
    {od_j_signs : Option Addr} {an_j_signs : Option Addr} {sl_j_signs : Array (Option Value)} {oc_j_signs kv_j_signs dc_j_signs pm_j_signs cd_j_signs ct_j_signs : Value} {od_j_parts : Option Addr} {an_j_parts : Option Addr} {sl_j_parts : Array (Option Value)} {oc_j_parts kv_j_parts dc_j_parts pm_j_parts cd_j_parts ct_j_parts : Value}
    {od_j_streams : Option Addr} {an_j_streams : Option Addr} {sl_j_streams : Array (Option Value)} {oc_j_streams kv_j_streams dc_j_streams pm_j_streams cd_j_streams ct_j_streams : Value} {od_odd_text : Option Addr} {an_odd_text : Option Addr} {sl_odd_text : Array (Option Value)} {oc_odd_text kv_odd_text dc_odd_text pm_odd_text cd_odd_text ct_odd_text : Value}
    {od_near : Option Addr} {an_near : Option Addr} {sl_near : Array (Option Value)} {oc_near kv_near dc_near pm_near cd_near ct_near : Value} {od_met : Option Addr} {an_met : Option Addr} {sl_met : Array (Option Value)} {oc_met kv_met dc_met pm_met cd_met ct_met : Value}
    {od_texts_right : Option Addr} {an_texts_right : Option Addr} {sl_texts_right : Array (Option Value)} {oc_texts_right kv_texts_right dc_texts_right pm_texts_right cd_texts_right ct_texts_right : Value} {od_streams_right : Option Addr} {an_streams_right : Option Addr} {sl_streams_right : Array (Option Value)} {oc_streams_right kv_streams_right dc_streams_right pm_streams_right cd_streams_right ct_streams_right : Value}
    {od_law : Option Addr} {an_law : Option Addr} {sl_law : Array (Option Value)} {oc_law kv_law dc_law pm_law cd_law ct_law : Value} {t_LETTERS : Tok} {t_END : Tok} {t_MAX_NAME : Tok} {t_MAX_SIGNS : Tok}
    {t_MAX_STREAMS : Tok} {t_MAX_WORD : Tok} {od_init : Option Addr} {an_init : Option Addr} {sl_init : Array (Option Value)} {oc_init kv_init dc_init pm_init cd_init ct_init : Value} {rest0 : List Value} {od_sources : Option Addr}
    {an_sources : Option Addr} {sl_sources : Array (Option Value)} {oc_sources kv_sources dc_sources pm_sources cd_sources ct_sources : Value} {rest1 : List Value} {od_sinks : Option Addr} {an_sinks : Option Addr} {sl_sinks : Array (Option Value)} {oc_sinks kv_sinks dc_sinks pm_sinks cd_sinks ct_sinks : Value}
    (a_dip : PySem.W.nsIn K mainGlobals "_law_dip" = some (some (.ref f_dip)))
    (l_dip : K.lookup f_dip = some ⟨oc_dip, od_dip, .func (PySem.W.fnOf "_law_dip" "_law_dip" (defArgs s_dip) (defBody s_dip) (defScope s_dip) .none kv_dip dc_dip pm_dip an_dip cd_dip ct_dip), sl_dip⟩)
    (c_dip : PySem.W.codeIn K cd_dip "_law_dip" = true)
    (k_dip : PySem.W.keepIn K (.ref f_dip) = true)
    (a_choose : PySem.W.nsIn K mainGlobals "_law_choose" = some (some (.ref f_choose)))
    (l_choose : K.lookup f_choose = some ⟨oc_choose, od_choose, .func (PySem.W.fnOf "_law_choose" "_law_choose" (defArgs s_choose) (defBody s_choose) (defScope s_choose) .none kv_choose dc_choose pm_choose an_choose cd_choose ct_choose), sl_choose⟩)
    (c_choose : PySem.W.codeIn K cd_choose "_law_choose" = true)
    (k_choose : PySem.W.keepIn K (.ref f_choose) = true)
    (a_shuffled : PySem.W.nsIn K mainGlobals "_law_shuffled" = some (some (.ref f_shuffled)))
    (l_shuffled : K.lookup f_shuffled = some ⟨oc_shuffled, od_shuffled, .func (PySem.W.fnOf "_law_shuffled" "_law_shuffled" (defArgs s_shuffled) (defBody s_shuffled) (defScope s_shuffled) .none kv_shuffled dc_shuffled pm_shuffled an_shuffled cd_shuffled ct_shuffled), sl_shuffled⟩)
    (c_shuffled : PySem.W.codeIn K cd_shuffled "_law_shuffled" = true)
    (k_shuffled : PySem.W.keepIn K (.ref f_shuffled) = true)
    (a_name : PySem.W.nsIn K mainGlobals "_law_name" = some (some (.ref f_name)))
    (l_name : K.lookup f_name = some ⟨oc_name, od_name, .func (PySem.W.fnOf "_law_name" "_law_name" (defArgs s_name) (defBody s_name) (defScope s_name) .none kv_name dc_name pm_name an_name cd_name ct_name), sl_name⟩)
    (c_name : PySem.W.codeIn K cd_name "_law_name" = true)
    (k_name : PySem.W.keepIn K (.ref f_name) = true)
    (a_free : PySem.W.nsIn K mainGlobals "_law_free" = some (some (.ref f_free)))
    (l_free : K.lookup f_free = some ⟨oc_free, od_free, .func (PySem.W.fnOf "_law_free" "_law_free" (defArgs s_free) (defBody s_free) (defScope s_free) .none kv_free dc_free pm_free an_free cd_free ct_free), sl_free⟩)
    (c_free : PySem.W.codeIn K cd_free "_law_free" = true)
    (k_free : PySem.W.keepIn K (.ref f_free) = true)
    (a_names : PySem.W.nsIn K mainGlobals "_law_names" = some (some (.ref f_names)))
    (l_names : K.lookup f_names = some ⟨oc_names, od_names, .func (PySem.W.fnOf "_law_names" "_law_names" (defArgs s_names) (defBody s_names) (defScope s_names) .none kv_names dc_names pm_names an_names cd_names ct_names), sl_names⟩)
    (c_names : PySem.W.codeIn K cd_names "_law_names" = true)
    (k_names : PySem.W.keepIn K (.ref f_names) = true)
    (a_signs : PySem.W.nsIn K mainGlobals "_law_signs" = some (some (.ref f_signs)))
    (l_signs : K.lookup f_signs = some ⟨oc_signs, od_signs, .func (PySem.W.fnOf "_law_signs" "_law_signs" (defArgs s_signs) (defBody s_signs) (defScope s_signs) .none kv_signs dc_signs pm_signs an_signs cd_signs ct_signs), sl_signs⟩)
    (c_signs : PySem.W.codeIn K cd_signs "_law_signs" = true)
    (k_signs : PySem.W.keepIn K (.ref f_signs) = true)
    (a_parts : PySem.W.nsIn K mainGlobals "_law_parts" = some (some (.ref f_parts)))
    (l_parts : K.lookup f_parts = some ⟨oc_parts, od_parts, .func (PySem.W.fnOf "_law_parts" "_law_parts" (defArgs s_parts) (defBody s_parts) (defScope s_parts) .none kv_parts dc_parts pm_parts an_parts cd_parts ct_parts), sl_parts⟩)
    (c_parts : PySem.W.codeIn K cd_parts "_law_parts" = true)
    (k_parts : PySem.W.keepIn K (.ref f_parts) = true)
    (a_filled : PySem.W.nsIn K mainGlobals "_law_filled" = some (some (.ref f_filled)))
    (l_filled : K.lookup f_filled = some ⟨oc_filled, od_filled, .func (PySem.W.fnOf "_law_filled" "_law_filled" (defArgs s_filled) (defBody s_filled) (defScope s_filled) .none kv_filled dc_filled pm_filled an_filled cd_filled ct_filled), sl_filled⟩)
    (c_filled : PySem.W.codeIn K cd_filled "_law_filled" = true)
    (k_filled : PySem.W.keepIn K (.ref f_filled) = true)
    (a_p_name : PySem.W.nsIn K mainGlobals "is_name" = some (some (.ref f_p_name)))
    (l_p_name : K.lookup f_p_name = some ⟨oc_p_name, od_p_name, .func (PySem.W.fnOf "is_name" "is_name" (defArgs s_p_name) (defBody s_p_name) (defScope s_p_name) .none kv_p_name dc_p_name pm_p_name an_p_name cd_p_name ct_p_name), sl_p_name⟩)
    (c_p_name : PySem.W.codeIn K cd_p_name "is_name" = true)
    (k_p_name : PySem.W.keepIn K (.ref f_p_name) = true)
    (a_p_signs : PySem.W.nsIn K mainGlobals "is_signs" = some (some (.ref f_p_signs)))
    (l_p_signs : K.lookup f_p_signs = some ⟨oc_p_signs, od_p_signs, .func (PySem.W.fnOf "is_signs" "is_signs" (defArgs s_p_signs) (defBody s_p_signs) (defScope s_p_signs) .none kv_p_signs dc_p_signs pm_p_signs an_p_signs cd_p_signs ct_p_signs), sl_p_signs⟩)
    (c_p_signs : PySem.W.codeIn K cd_p_signs "is_signs" = true)
    (k_p_signs : PySem.W.keepIn K (.ref f_p_signs) = true)
    (a_p_part : PySem.W.nsIn K mainGlobals "is_part" = some (some (.ref f_p_part)))
    (l_p_part : K.lookup f_p_part = some ⟨oc_p_part, od_p_part, .func (PySem.W.fnOf "is_part" "is_part" (defArgs s_p_part) (defBody s_p_part) (defScope s_p_part) .none kv_p_part dc_p_part pm_p_part an_p_part cd_p_part ct_p_part), sl_p_part⟩)
    (c_p_part : PySem.W.codeIn K cd_p_part "is_part" = true)
    (k_p_part : PySem.W.keepIn K (.ref f_p_part) = true)
    (a_p_parts : PySem.W.nsIn K mainGlobals "are_parts" = some (some (.ref f_p_parts)))
    (l_p_parts : K.lookup f_p_parts = some ⟨oc_p_parts, od_p_parts, .func (PySem.W.fnOf "are_parts" "are_parts" (defArgs s_p_parts) (defBody s_p_parts) (defScope s_p_parts) .none kv_p_parts dc_p_parts pm_p_parts an_p_parts cd_p_parts ct_p_parts), sl_p_parts⟩)
    (c_p_parts : PySem.W.codeIn K cd_p_parts "are_parts" = true)
    (k_p_parts : PySem.W.keepIn K (.ref f_p_parts) = true)
    (a_p_streams : PySem.W.nsIn K mainGlobals "are_streams" = some (some (.ref f_p_streams)))
    (l_p_streams : K.lookup f_p_streams = some ⟨oc_p_streams, od_p_streams, .func (PySem.W.fnOf "are_streams" "are_streams" (defArgs s_p_streams) (defBody s_p_streams) (defScope s_p_streams) .none kv_p_streams dc_p_streams pm_p_streams an_p_streams cd_p_streams ct_p_streams), sl_p_streams⟩)
    (c_p_streams : PySem.W.codeIn K cd_p_streams "are_streams" = true)
    (k_p_streams : PySem.W.keepIn K (.ref f_p_streams) = true)
    (a_j_letters : PySem.W.nsIn K mainGlobals "_law_is_letters" = some (some (.ref f_j_letters)))
    (l_j_letters : K.lookup f_j_letters = some ⟨oc_j_letters, od_j_letters, .func (PySem.W.fnOf "_law_is_letters" "_law_is_letters" (defArgs s_j_letters) (defBody s_j_letters) (defScope s_j_letters) .none kv_j_letters dc_j_letters pm_j_letters an_j_letters cd_j_letters ct_j_letters), sl_j_letters⟩)
    (c_j_letters : PySem.W.codeIn K cd_j_letters "_law_is_letters" = true)
    (k_j_letters : PySem.W.keepIn K (.ref f_j_letters) = true)
    (a_j_name : PySem.W.nsIn K mainGlobals "_law_is_name" = some (some (.ref f_j_name)))
    (l_j_name : K.lookup f_j_name = some ⟨oc_j_name, od_j_name, .func (PySem.W.fnOf "_law_is_name" "_law_is_name" (defArgs s_j_name) (defBody s_j_name) (defScope s_j_name) .none kv_j_name dc_j_name pm_j_name an_j_name cd_j_name ct_j_name), sl_j_name⟩)
    (c_j_name : PySem.W.codeIn K cd_j_name "_law_is_name" = true)
    (k_j_name : PySem.W.keepIn K (.ref f_j_name) = true)
    (a_j_signs : PySem.W.nsIn K mainGlobals "_law_is_signs" = some (some (.ref f_j_signs)))
    (l_j_signs : K.lookup f_j_signs = some ⟨oc_j_signs, od_j_signs, .func (PySem.W.fnOf "_law_is_signs" "_law_is_signs" (defArgs s_j_signs) (defBody s_j_signs) (defScope s_j_signs) .none kv_j_signs dc_j_signs pm_j_signs an_j_signs cd_j_signs ct_j_signs), sl_j_signs⟩)
    (c_j_signs : PySem.W.codeIn K cd_j_signs "_law_is_signs" = true)
    (k_j_signs : PySem.W.keepIn K (.ref f_j_signs) = true)
    (a_j_parts : PySem.W.nsIn K mainGlobals "_law_are_parts" = some (some (.ref f_j_parts)))
    (l_j_parts : K.lookup f_j_parts = some ⟨oc_j_parts, od_j_parts, .func (PySem.W.fnOf "_law_are_parts" "_law_are_parts" (defArgs s_j_parts) (defBody s_j_parts) (defScope s_j_parts) .none kv_j_parts dc_j_parts pm_j_parts an_j_parts cd_j_parts ct_j_parts), sl_j_parts⟩)
    (c_j_parts : PySem.W.codeIn K cd_j_parts "_law_are_parts" = true)
    (k_j_parts : PySem.W.keepIn K (.ref f_j_parts) = true)
    (a_j_streams : PySem.W.nsIn K mainGlobals "_law_are_streams" = some (some (.ref f_j_streams)))
    (l_j_streams : K.lookup f_j_streams = some ⟨oc_j_streams, od_j_streams, .func (PySem.W.fnOf "_law_are_streams" "_law_are_streams" (defArgs s_j_streams) (defBody s_j_streams) (defScope s_j_streams) .none kv_j_streams dc_j_streams pm_j_streams an_j_streams cd_j_streams ct_j_streams), sl_j_streams⟩)
    (c_j_streams : PySem.W.codeIn K cd_j_streams "_law_are_streams" = true)
    (k_j_streams : PySem.W.keepIn K (.ref f_j_streams) = true)
    (a_odd_text : PySem.W.nsIn K mainGlobals "_law_odd_text" = some (some (.ref f_odd_text)))
    (l_odd_text : K.lookup f_odd_text = some ⟨oc_odd_text, od_odd_text, .func (PySem.W.fnOf "_law_odd_text" "_law_odd_text" (defArgs s_odd_text) (defBody s_odd_text) (defScope s_odd_text) .none kv_odd_text dc_odd_text pm_odd_text an_odd_text cd_odd_text ct_odd_text), sl_odd_text⟩)
    (c_odd_text : PySem.W.codeIn K cd_odd_text "_law_odd_text" = true)
    (k_odd_text : PySem.W.keepIn K (.ref f_odd_text) = true)
    (a_near : PySem.W.nsIn K mainGlobals "_law_near" = some (some (.ref f_near)))
    (l_near : K.lookup f_near = some ⟨oc_near, od_near, .func (PySem.W.fnOf "_law_near" "_law_near" (defArgs s_near) (defBody s_near) (defScope s_near) .none kv_near dc_near pm_near an_near cd_near ct_near), sl_near⟩)
    (c_near : PySem.W.codeIn K cd_near "_law_near" = true)
    (k_near : PySem.W.keepIn K (.ref f_near) = true)
    (a_met : PySem.W.nsIn K mainGlobals "_law_met" = some (some (.ref f_met)))
    (l_met : K.lookup f_met = some ⟨oc_met, od_met, .func (PySem.W.fnOf "_law_met" "_law_met" (defArgs s_met) (defBody s_met) (defScope s_met) .none kv_met dc_met pm_met an_met cd_met ct_met), sl_met⟩)
    (c_met : PySem.W.codeIn K cd_met "_law_met" = true)
    (k_met : PySem.W.keepIn K (.ref f_met) = true)
    (a_texts_right : PySem.W.nsIn K mainGlobals "_law_texts_right" = some (some (.ref f_texts_right)))
    (l_texts_right : K.lookup f_texts_right = some ⟨oc_texts_right, od_texts_right, .func (PySem.W.fnOf "_law_texts_right" "_law_texts_right" (defArgs s_texts_right) (defBody s_texts_right) (defScope s_texts_right) .none kv_texts_right dc_texts_right pm_texts_right an_texts_right cd_texts_right ct_texts_right), sl_texts_right⟩)
    (c_texts_right : PySem.W.codeIn K cd_texts_right "_law_texts_right" = true)
    (k_texts_right : PySem.W.keepIn K (.ref f_texts_right) = true)
    (a_streams_right : PySem.W.nsIn K mainGlobals "_law_streams_right" = some (some (.ref f_streams_right)))
    (l_streams_right : K.lookup f_streams_right = some ⟨oc_streams_right, od_streams_right, .func (PySem.W.fnOf "_law_streams_right" "_law_streams_right" (defArgs s_streams_right) (defBody s_streams_right) (defScope s_streams_right) .none kv_streams_right dc_streams_right pm_streams_right an_streams_right cd_streams_right ct_streams_right), sl_streams_right⟩)
    (c_streams_right : PySem.W.codeIn K cd_streams_right "_law_streams_right" = true)
    (k_streams_right : PySem.W.keepIn K (.ref f_streams_right) = true)
    (a_law : PySem.W.nsIn K mainGlobals "law" = some (some (.ref f_law)))
    (l_law : K.lookup f_law = some ⟨oc_law, od_law, .func (PySem.W.fnOf "law" "law" (defArgs s_law) (defBody s_law) (defScope s_law) .none kv_law dc_law pm_law an_law cd_law ct_law), sl_law⟩)
    (c_law : PySem.W.codeIn K cd_law "law" = true)
    (k_law : PySem.W.keepIn K (.ref f_law) = true)
    (z_len : PySem.W.nsIn K mainGlobals "len" = some none)
    (z_int : PySem.W.nsIn K mainGlobals "int" = some none)
    (z_abs : PySem.W.nsIn K mainGlobals "abs" = some none)
    (z_max : PySem.W.nsIn K mainGlobals "max" = some none)
    (z_min : PySem.W.nsIn K mainGlobals "min" = some none)
    (z_list : PySem.W.nsIn K mainGlobals "list" = some none)
    (z_tuple : PySem.W.nsIn K mainGlobals "tuple" = some none)
    (z_range : PySem.W.nsIn K mainGlobals "range" = some none)
    (z_sorted : PySem.W.nsIn K mainGlobals "sorted" = some none)
    (z_isinstance : PySem.W.nsIn K mainGlobals "isinstance" = some none)
    (z_str : PySem.W.nsIn K mainGlobals "str" = some none)
    (z_all : PySem.W.nsIn K mainGlobals "all" = some none)
    (z_zip : PySem.W.nsIn K mainGlobals "zip" = some none)
    (z_set : PySem.W.nsIn K mainGlobals "set" = some none)
    (z_repr : PySem.W.nsIn K mainGlobals "repr" = some none)
    (z_dict : PySem.W.nsIn K mainGlobals "dict" = some none)
    (g_LETTERS : PySem.W.nsIn K mainGlobals "LETTERS" = some (some (.str "abcdefghijklmnopqrstuvwxyz" t_LETTERS)))
    (g_END : PySem.W.nsIn K mainGlobals "END" = some (some (.str "end" t_END)))
    (g_MAX_NAME : PySem.W.nsIn K mainGlobals "MAX_NAME" = some (some (.int 8 t_MAX_NAME)))
    (g_MAX_SIGNS : PySem.W.nsIn K mainGlobals "MAX_SIGNS" = some (some (.int 4 t_MAX_SIGNS)))
    (g_MAX_STREAMS : PySem.W.nsIn K mainGlobals "MAX_STREAMS" = some (some (.int 3 t_MAX_STREAMS)))
    (g_MAX_WORD : PySem.W.nsIn K mainGlobals "MAX_WORD" = some (some (.int 200 t_MAX_WORD)))
    (nC : PySem.W.nsIn K mainGlobals "Streams" = some (some (.ref C)))
    (nS : PySem.W.nsIn K mainGlobals "InvalidStreams" = some (some (.ref S)))
    (kS : PySem.W.keepIn K (.ref S) = true)
    (xS : PySem.W.excIn K S [.type "ValueError", .type "Exception", .type "BaseException", .type "object"] "ValueError.__new__" = true)
    (bS : PySem.W.subIn K (.ref S) (.type "BaseException") = some true)
    (tS : PySem.W.typeIn K (.ref S) = some (.type "type"))
    (iS : PySem.W.isClsIn K S = true)
    (sS : PySem.W.subIn K (.ref S) (.ref S) = some true)
    (pg : PySem.W.plainGet K C Str.empty = true)
    (ic : PySem.W.isClsIn K C = true)
    (po : PySem.W.plainOver K C = true)
    (sa : PySem.W.findIn K (.ref C) "__setattr__" = some (some (.builtin "object.__setattr__")))
    (mk : PySem.W.makesIn K C = true)
    (kC : PySem.W.keepIn K (.ref C) = true)
    (w0 : PySem.W.findIn K (.ref C) "own_sources" = some (some (.ref p0)))
    (w0g : PySem.W.specialIn K (.ref p0) "__get__" = some (some (.builtin "member_descriptor.__get__")))
    (w0k : PySem.W.takesIn K (.ref p0) = some true)
    (w0t : PySem.W.typeIn K (.ref p0) = some (.type "member_descriptor"))
    (w0i : PySem.W.slotIn K p0 C = some 3)
    (w1 : PySem.W.findIn K (.ref C) "own_sinks" = some (some (.ref p1)))
    (w1g : PySem.W.specialIn K (.ref p1) "__get__" = some (some (.builtin "member_descriptor.__get__")))
    (w1k : PySem.W.takesIn K (.ref p1) = some true)
    (w1t : PySem.W.typeIn K (.ref p1) = some (.type "member_descriptor"))
    (w1i : PySem.W.slotIn K p1 C = some 2)
    (w2 : PySem.W.findIn K (.ref C) "own_names" = some (some (.ref p2)))
    (w2g : PySem.W.specialIn K (.ref p2) "__get__" = some (some (.builtin "member_descriptor.__get__")))
    (w2k : PySem.W.takesIn K (.ref p2) = some true)
    (w2t : PySem.W.typeIn K (.ref p2) = some (.type "member_descriptor"))
    (w2i : PySem.W.slotIn K p2 C = some 0)
    (w3 : PySem.W.findIn K (.ref C) "own_signs" = some (some (.ref p3)))
    (w3g : PySem.W.specialIn K (.ref p3) "__get__" = some (some (.builtin "member_descriptor.__get__")))
    (w3k : PySem.W.takesIn K (.ref p3) = some true)
    (w3t : PySem.W.typeIn K (.ref p3) = some (.type "member_descriptor"))
    (w3i : PySem.W.slotIn K p3 C = some 1)
    (a_init : PySem.W.findIn K (.ref C) "__init__" = some (some (.ref f_init)))
    (l_init : K.lookup f_init = some ⟨oc_init, od_init, .func (PySem.W.fnOf "__init__" "Streams.__init__" (defArgs s_init) (defBody s_init) (defScope s_init) .none kv_init dc_init pm_init an_init cd_init ct_init), sl_init⟩)
    (c_init : PySem.W.codeIn K cd_init "Streams.__init__" = true)
    (k_init : PySem.W.keepIn K (.ref f_init) = true)
    (i_init : PySem.W.isFn K (.ref f_init) = true)
    (u0 : PySem.W.findIn K (.ref C) "sources" = some (some (.ref q0)))
    (u0g : PySem.W.specialIn K (.ref q0) "__get__" = some (some (.builtin "property.__get__")))
    (u0k : PySem.W.takesIn K (.ref q0) = some true)
    (a_sources : PySem.W.recIn K q0 "property" = some (.ref f_sources :: rest0))
    (l_sources : K.lookup f_sources = some ⟨oc_sources, od_sources, .func (PySem.W.fnOf "sources" "Streams.sources" (defArgs s_sources) (defBody s_sources) (defScope s_sources) .none kv_sources dc_sources pm_sources an_sources cd_sources ct_sources), sl_sources⟩)
    (c_sources : PySem.W.codeIn K cd_sources "Streams.sources" = true)
    (k_sources : PySem.W.keepIn K (.ref f_sources) = true)
    (u1 : PySem.W.findIn K (.ref C) "sinks" = some (some (.ref q1)))
    (u1g : PySem.W.specialIn K (.ref q1) "__get__" = some (some (.builtin "property.__get__")))
    (u1k : PySem.W.takesIn K (.ref q1) = some true)
    (a_sinks : PySem.W.recIn K q1 "property" = some (.ref f_sinks :: rest1))
    (l_sinks : K.lookup f_sinks = some ⟨oc_sinks, od_sinks, .func (PySem.W.fnOf "sinks" "Streams.sinks" (defArgs s_sinks) (defBody s_sinks) (defScope s_sinks) .none kv_sinks dc_sinks pm_sinks an_sinks cd_sinks ct_sinks), sl_sinks⟩)
    (c_sinks : PySem.W.codeIn K cd_sinks "Streams.sinks" = true)
    (k_sinks : PySem.W.keepIn K (.ref f_sinks) = true)
    : ∃ fd : FuncData, (∀ (s : Shared) (v : Value), BindsTo s fd ⟨[v], []⟩ [("script", v)]) ∧ ∀ base : Heap, K.In base → base.Ns mainGlobals mg → FnG l.prog w K mg base CX0 9 fa fd ["script"] (spLaw K) := by
  have e := hfa.symm.trans (PySem.W.mg_of X G a_law)
  cases e
  have F_dip := fun_mk (st := s_dip) l_dip c_dip k_dip
  have b_dip := F_dip.binds (ps := ["pot", "total"]) fun _ _ _ _ _ _ us hl => match us, hl with | [_, _], _ => rfl
  have D_dip : Df K mg "_law_dip" s_dip ["pot", "total"] := ⟨f_dip, _, F_dip, PySem.W.mg_of X G a_dip, b_dip⟩
  have F_choose := fun_mk (st := s_choose) l_choose c_choose k_choose
  have b_choose := F_choose.binds (ps := ["pot", "items"]) fun _ _ _ _ _ _ us hl => match us, hl with | [_, _], _ => rfl
  have D_choose : Df K mg "_law_choose" s_choose ["pot", "items"] := ⟨f_choose, _, F_choose, PySem.W.mg_of X G a_choose, b_choose⟩
  have F_shuffled := fun_mk (st := s_shuffled) l_shuffled c_shuffled k_shuffled
  have b_shuffled := F_shuffled.binds (ps := ["pot", "items"]) fun _ _ _ _ _ _ us hl => match us, hl with | [_, _], _ => rfl
  have D_shuffled : Df K mg "_law_shuffled" s_shuffled ["pot", "items"] := ⟨f_shuffled, _, F_shuffled, PySem.W.mg_of X G a_shuffled, b_shuffled⟩
  have F_name := fun_mk (st := s_name) l_name c_name k_name
  have b_name := F_name.binds (ps := ["pot"]) fun _ _ _ _ _ _ us hl => match us, hl with | [_], _ => rfl
  have D_name : Df K mg "_law_name" s_name ["pot"] := ⟨f_name, _, F_name, PySem.W.mg_of X G a_name, b_name⟩
  have F_free := fun_mk (st := s_free) l_free c_free k_free
  have b_free := F_free.binds (ps := ["names"]) fun _ _ _ _ _ _ us hl => match us, hl with | [_], _ => rfl
  have D_free : Df K mg "_law_free" s_free ["names"] := ⟨f_free, _, F_free, PySem.W.mg_of X G a_free, b_free⟩
  have F_names := fun_mk (st := s_names) l_names c_names k_names
  have b_names := F_names.binds (ps := ["pot", "many"]) fun _ _ _ _ _ _ us hl => match us, hl with | [_, _], _ => rfl
  have D_names : Df K mg "_law_names" s_names ["pot", "many"] := ⟨f_names, _, F_names, PySem.W.mg_of X G a_names, b_names⟩
  have F_signs := fun_mk (st := s_signs) l_signs c_signs k_signs
  have b_signs := F_signs.binds (ps := ["pot"]) fun _ _ _ _ _ _ us hl => match us, hl with | [_], _ => rfl
  have D_signs : Df K mg "_law_signs" s_signs ["pot"] := ⟨f_signs, _, F_signs, PySem.W.mg_of X G a_signs, b_signs⟩
  have F_parts := fun_mk (st := s_parts) l_parts c_parts k_parts
  have b_parts := F_parts.binds (ps := ["pot", "most"]) fun _ _ _ _ _ _ us hl => match us, hl with | [_, _], _ => rfl
  have D_parts : Df K mg "_law_parts" s_parts ["pot", "most"] := ⟨f_parts, _, F_parts, PySem.W.mg_of X G a_parts, b_parts⟩
  have F_filled := fun_mk (st := s_filled) l_filled c_filled k_filled
  have b_filled := F_filled.binds (ps := ["script", "at"]) fun _ _ _ _ _ _ us hl => match us, hl with | [_, _], _ => rfl
  have D_filled : Df K mg "_law_filled" s_filled ["script", "at"] := ⟨f_filled, _, F_filled, PySem.W.mg_of X G a_filled, b_filled⟩
  have F_p_name := fun_mk (st := s_p_name) l_p_name c_p_name k_p_name
  have b_p_name := F_p_name.binds (ps := ["value"]) fun _ _ _ _ _ _ us hl => match us, hl with | [_], _ => rfl
  have D_p_name : Df K mg "is_name" s_p_name ["value"] := ⟨f_p_name, _, F_p_name, PySem.W.mg_of X G a_p_name, b_p_name⟩
  have F_p_signs := fun_mk (st := s_p_signs) l_p_signs c_p_signs k_p_signs
  have b_p_signs := F_p_signs.binds (ps := ["value"]) fun _ _ _ _ _ _ us hl => match us, hl with | [_], _ => rfl
  have D_p_signs : Df K mg "is_signs" s_p_signs ["value"] := ⟨f_p_signs, _, F_p_signs, PySem.W.mg_of X G a_p_signs, b_p_signs⟩
  have F_p_part := fun_mk (st := s_p_part) l_p_part c_p_part k_p_part
  have b_p_part := F_p_part.binds (ps := ["value"]) fun _ _ _ _ _ _ us hl => match us, hl with | [_], _ => rfl
  have D_p_part : Df K mg "is_part" s_p_part ["value"] := ⟨f_p_part, _, F_p_part, PySem.W.mg_of X G a_p_part, b_p_part⟩
  have F_p_parts := fun_mk (st := s_p_parts) l_p_parts c_p_parts k_p_parts
  have b_p_parts := F_p_parts.binds (ps := ["value", "least"]) fun _ _ _ _ _ _ us hl => match us, hl with | [_, _], _ => rfl
  have D_p_parts : Df K mg "are_parts" s_p_parts ["value", "least"] := ⟨f_p_parts, _, F_p_parts, PySem.W.mg_of X G a_p_parts, b_p_parts⟩
  have F_p_streams := fun_mk (st := s_p_streams) l_p_streams c_p_streams k_p_streams
  have b_p_streams := F_p_streams.binds (ps := ["sources", "sinks"]) fun _ _ _ _ _ _ us hl => match us, hl with | [_, _], _ => rfl
  have D_p_streams : Df K mg "are_streams" s_p_streams ["sources", "sinks"] := ⟨f_p_streams, _, F_p_streams, PySem.W.mg_of X G a_p_streams, b_p_streams⟩
  have F_j_letters := fun_mk (st := s_j_letters) l_j_letters c_j_letters k_j_letters
  have b_j_letters := F_j_letters.binds (ps := ["value", "least", "most"]) fun _ _ _ _ _ _ us hl => match us, hl with | [_, _, _], _ => rfl
  have D_j_letters : Df K mg "_law_is_letters" s_j_letters ["value", "least", "most"] := ⟨f_j_letters, _, F_j_letters, PySem.W.mg_of X G a_j_letters, b_j_letters⟩
  have F_j_name := fun_mk (st := s_j_name) l_j_name c_j_name k_j_name
  have b_j_name := F_j_name.binds (ps := ["value"]) fun _ _ _ _ _ _ us hl => match us, hl with | [_], _ => rfl
  have D_j_name : Df K mg "_law_is_name" s_j_name ["value"] := ⟨f_j_name, _, F_j_name, PySem.W.mg_of X G a_j_name, b_j_name⟩
  have F_j_signs := fun_mk (st := s_j_signs) l_j_signs c_j_signs k_j_signs
  have b_j_signs := F_j_signs.binds (ps := ["value"]) fun _ _ _ _ _ _ us hl => match us, hl with | [_], _ => rfl
  have D_j_signs : Df K mg "_law_is_signs" s_j_signs ["value"] := ⟨f_j_signs, _, F_j_signs, PySem.W.mg_of X G a_j_signs, b_j_signs⟩
  have F_j_parts := fun_mk (st := s_j_parts) l_j_parts c_j_parts k_j_parts
  have b_j_parts := F_j_parts.binds (ps := ["value", "least"]) fun _ _ _ _ _ _ us hl => match us, hl with | [_, _], _ => rfl
  have D_j_parts : Df K mg "_law_are_parts" s_j_parts ["value", "least"] := ⟨f_j_parts, _, F_j_parts, PySem.W.mg_of X G a_j_parts, b_j_parts⟩
  have F_j_streams := fun_mk (st := s_j_streams) l_j_streams c_j_streams k_j_streams
  have b_j_streams := F_j_streams.binds (ps := ["sources", "sinks"]) fun _ _ _ _ _ _ us hl => match us, hl with | [_, _], _ => rfl
  have D_j_streams : Df K mg "_law_are_streams" s_j_streams ["sources", "sinks"] := ⟨f_j_streams, _, F_j_streams, PySem.W.mg_of X G a_j_streams, b_j_streams⟩
  have F_odd_text := fun_mk (st := s_odd_text) l_odd_text c_odd_text k_odd_text
  have b_odd_text := F_odd_text.binds (ps := ["pot", "word"]) fun _ _ _ _ _ _ us hl => match us, hl with | [_, _], _ => rfl
  have D_odd_text : Df K mg "_law_odd_text" s_odd_text ["pot", "word"] := ⟨f_odd_text, _, F_odd_text, PySem.W.mg_of X G a_odd_text, b_odd_text⟩
  have F_near := fun_mk (st := s_near) l_near c_near k_near
  have b_near := F_near.binds (ps := ["pot", "parts"]) fun _ _ _ _ _ _ us hl => match us, hl with | [_, _], _ => rfl
  have D_near : Df K mg "_law_near" s_near ["pot", "parts"] := ⟨f_near, _, F_near, PySem.W.mg_of X G a_near, b_near⟩
  have F_met := fun_mk (st := s_met) l_met c_met k_met
  have b_met := F_met.binds (ps := ["sources", "sinks"]) fun _ _ _ _ _ _ us hl => match us, hl with | [_, _], _ => rfl
  have D_met : Df K mg "_law_met" s_met ["sources", "sinks"] := ⟨f_met, _, F_met, PySem.W.mg_of X G a_met, b_met⟩
  have F_texts_right := fun_mk (st := s_texts_right) l_texts_right c_texts_right k_texts_right
  have b_texts_right := F_texts_right.binds (ps := ["pot"]) fun _ _ _ _ _ _ us hl => match us, hl with | [_], _ => rfl
  have D_texts_right : Df K mg "_law_texts_right" s_texts_right ["pot"] := ⟨f_texts_right, _, F_texts_right, PySem.W.mg_of X G a_texts_right, b_texts_right⟩
  have F_streams_right := fun_mk (st := s_streams_right) l_streams_right c_streams_right k_streams_right
  have b_streams_right := F_streams_right.binds (ps := ["pot"]) fun _ _ _ _ _ _ us hl => match us, hl with | [_], _ => rfl
  have D_streams_right : Df K mg "_law_streams_right" s_streams_right ["pot"] := ⟨f_streams_right, _, F_streams_right, PySem.W.mg_of X G a_streams_right, b_streams_right⟩
  have F_law := fun_mk (st := s_law) l_law c_law k_law
  have b_law := F_law.binds (ps := ["script"]) fun _ _ _ _ _ _ us hl => match us, hl with | [_], _ => rfl
  have T : Bs mg := ⟨PySem.W.mg_none_of X G z_len, PySem.W.mg_none_of X G z_int, PySem.W.mg_none_of X G z_abs, PySem.W.mg_none_of X G z_max, PySem.W.mg_none_of X G z_min, PySem.W.mg_none_of X G z_list, PySem.W.mg_none_of X G z_tuple, PySem.W.mg_none_of X G z_range, PySem.W.mg_none_of X G z_sorted, PySem.W.mg_none_of X G z_isinstance, PySem.W.mg_none_of X G z_str, PySem.W.mg_none_of X G z_all, PySem.W.mg_none_of X G z_zip, PySem.W.mg_none_of X G z_set, PySem.W.mg_none_of X G z_repr, PySem.W.mg_none_of X G z_dict⟩
  have GG : Gs mg := ⟨⟨_, PySem.W.mg_of X G g_LETTERS⟩, ⟨_, PySem.W.mg_of X G g_END⟩, ⟨_, PySem.W.mg_of X G g_MAX_NAME⟩, ⟨_, PySem.W.mg_of X G g_MAX_SIGNS⟩, ⟨_, PySem.W.mg_of X G g_MAX_STREAMS⟩, ⟨_, PySem.W.mg_of X G g_MAX_WORD⟩⟩
  have F_init := fun_mk (st := s_init) l_init c_init k_init
  have b_init := F_init.binds (ps := ["self", "sources", "sinks"]) fun _ _ _ _ _ _ us hl => match us, hl with | [_, _, _], _ => rfl
  have F_sources := fun_mk (st := s_sources) l_sources c_sources k_sources
  have b_sources := F_sources.binds (ps := ["self"]) fun _ _ _ _ _ _ us hl => match us, hl with | [_], _ => rfl
  have F_sinks := fun_mk (st := s_sinks) l_sinks c_sinks k_sinks
  have b_sinks := F_sinks.binds (ps := ["self"]) fun _ _ _ _ _ _ us hl => match us, hl with | [_], _ => rfl
  have Z : Sx K mg C S := { gC := PySem.W.mg_of X G nC, gS := PySem.W.mg_of X G nS, kS := kS, xS := xS, bS := bS, tS := tS, te := exm_self bS iS tS sS, sc := ⟨pg, ic, po, sa⟩, t0 := ⟨p0, w0, w0g, w0k, w0t, w0i, by decide⟩, t1 := ⟨p1, w1, w1g, w1k, w1t, w1i, by decide⟩, t2 := ⟨p2, w2, w2g, w2k, w2t, w2i, by decide⟩, t3 := ⟨p3, w3, w3g, w3k, w3t, w3i, by decide⟩ }
  have M : L2.Mk K C f_init := ⟨mk, a_init, i_init, kC⟩
  refine ⟨PySem.W.fnOf "law" "law" (defArgs s_law) (defBody s_law) (defScope s_law) .none kv_law dc_law pm_law an_law cd_law ct_law, fun s v => .of_eq rfl, fun base _ _ => ?_⟩
  have C_dip := cal_dip (P := l.prog) (w := w) (base := base) T D_dip
  have C_choose := cal_choose T D_choose C_dip
  have C_shuffled := cal_shuffled T D_shuffled C_dip
  have C_name := cal_name T D_name C_dip C_choose
  have C_free := cal_free (P := l.prog) (w := w) (base := base) D_free
  have C_names := cal_names T D_names C_name C_free
  have C_signs := cal_signs T D_signs C_dip C_choose C_shuffled
  have C_parts := cal_parts T D_parts C_dip C_names C_signs
  have C_filled := cal_filled (P := l.prog) (w := w) (base := base) T D_filled
  have C_p_name := cal_p_name (P := l.prog) (w := w) (base := base) T GG D_p_name
  have C_p_signs := cal_p_signs (P := l.prog) (w := w) (base := base) T GG D_p_signs
  have C_p_part := cal_p_part T D_p_part C_p_name C_p_signs
  have C_p_parts := cal_p_parts T GG D_p_parts C_p_part
  have C_p_streams := cal_p_streams T D_p_streams C_p_parts
  have C_j_letters := cal_j_letters (P := l.prog) (w := w) (base := base) T D_j_letters
  have C_j_name := cal_j_name D_j_name C_j_letters
  have C_j_signs := cal_j_signs T D_j_signs C_j_letters
  have C_j_parts := cal_j_parts T D_j_parts C_j_name C_j_signs
  have C_j_streams := cal_j_streams T D_j_streams C_j_parts
  have C_odd_text := cal_odd_text T D_odd_text C_dip C_choose
  have C_near := cal_near T D_near C_dip C_choose C_name C_signs C_odd_text
  have C_init := fn_init T Z F_init C_p_streams
  have C_met := cal_met Z D_met M C_init b_init
  have PS : PrX l.prog w K mg base C "sources" 3 := ⟨q0, f_sources, u0, u0g, u0k, ⟨_, a_sources⟩, fnR_of (fn_sources Z F_sources) b_sources⟩
  have PK : PrX l.prog w K mg base C "sinks" 2 := ⟨q1, f_sinks, u1, u1g, u1k, ⟨_, a_sinks⟩, fnR_of (fn_sinks Z F_sinks) b_sinks⟩
  have C_texts := cal_texts_right T D_texts_right C_name C_signs C_odd_text C_j_name C_j_signs C_p_name C_p_signs
  have C_streams := cal_streams_right T Z PS PK D_streams_right C_dip C_parts C_near C_j_streams C_met
  exact fng_law T GG F_law C_filled C_texts C_streams C_met
theorem walk_law {l : PySem.W.OpenLaw} {q : Program} {loose : List Str} {XP : (Str → Option Value) → Heap → Prop} {YP : World → Heap → Prop} {d : DefRec} {K : Params → PySem.W.Frag} (hn : l.most = some 63) (hdf : d.params.defaults = []) (hY : ∀ (w : World) (h : Heap), YP w h → (K w.params).In h)
    (F : ∀ (w : World) (mg : Str → Option Value) (fa : Addr) (h : Heap), (K w.params).In h → h.Ns mainGlobals mg → mg d.name = some (.ref fa) → ∃ fd : FuncData, (∀ (s : Shared) (u : Value), BindsTo s fd ⟨[u], []⟩ [("script", u)]) ∧
      ∀ base : Heap, (K w.params).In base → base.Ns mainGlobals mg → FnG l.prog w (K w.params) mg base CX0 9 fa fd ["script"] (spLaw (K w.params))) : PySem.W.WalkO q loose XP YP l.row.toRowW d [] (fun f vs => PySem.call f vs) :=
  walk_g (n := 63) (k := 9) (x := "script") (CX := fun _ => CX0) (sp := fun w => (spLaw (K w.params))) hn (by decide) hdf ⟨rfl, by decide, by decide⟩ hY F (fun w H a ns hl _ hs => ⟨a, ns, rfl, hs, hl, fun _ => rfl⟩) fun _ _ _ _ _ z => z
end Fs
open PySem PySem.W PyProof.Rows in
set_option maxRecDepth 100000 in
set_option maxHeartbeats 0 in
theorem PySem.Challenge.cw_fewersteps_k00_names_signs_and_streams_j_holds : PySem.Challenge.rw_fewersteps_k00_names_signs_and_streams_j.Holds := by
  w_on; o_law; k_head; (case hw => w_witness2)
  k_fill
  refine Fs.walk_law (l := PySem.Challenge.rw_fewersteps_k00_names_signs_and_streams_j) rfl rfl (fun w h Y => PySem.W.kIn_of Y) ?F
  case F =>
    intro w mg fa h KX G hmg
    refine' Fs.all_mk KX G hmg ?a_dip ?l_dip ?c_dip ?k_dip ?a_choose ?l_choose ?c_choose ?k_choose ?a_shuffled ?l_shuffled ?c_shuffled ?k_shuffled ?a_name ?l_name ?c_name ?k_name ?a_free ?l_free ?c_free ?k_free ?a_names ?l_names ?c_names ?k_names ?a_signs ?l_signs ?c_signs ?k_signs ?a_parts ?l_parts ?c_parts ?k_parts ?a_filled ?l_filled ?c_filled ?k_filled ?a_p_name ?l_p_name ?c_p_name ?k_p_name ?a_p_signs ?l_p_signs ?c_p_signs ?k_p_signs ?a_p_part ?l_p_part ?c_p_part ?k_p_part ?a_p_parts ?l_p_parts ?c_p_parts ?k_p_parts ?a_p_streams ?l_p_streams ?c_p_streams ?k_p_streams ?a_j_letters ?l_j_letters ?c_j_letters ?k_j_letters ?a_j_name ?l_j_name ?c_j_name ?k_j_name ?a_j_signs ?l_j_signs ?c_j_signs ?k_j_signs ?a_j_parts ?l_j_parts ?c_j_parts ?k_j_parts ?a_j_streams ?l_j_streams ?c_j_streams ?k_j_streams ?a_odd_text ?l_odd_text ?c_odd_text ?k_odd_text ?a_near ?l_near ?c_near ?k_near ?a_met ?l_met ?c_met ?k_met ?a_texts_right ?l_texts_right ?c_texts_right ?k_texts_right ?a_streams_right ?l_streams_right ?c_streams_right ?k_streams_right ?a_law ?l_law ?c_law ?k_law ?z_len ?z_int ?z_abs ?z_max ?z_min ?z_list ?z_tuple ?z_range ?z_sorted ?z_isinstance ?z_str ?z_all ?z_zip ?z_set ?z_repr ?z_dict ?g_LETTERS ?g_END ?g_MAX_NAME ?g_MAX_SIGNS ?g_MAX_STREAMS ?g_MAX_WORD ?nC ?nS ?kS ?xS ?bS ?tS ?iS ?sS ?pg ?ic ?po ?sa ?mk ?kC ?w0 ?w0g ?w0k ?w0t ?w0i ?w1 ?w1g ?w1k ?w1t ?w1i ?w2 ?w2g ?w2k ?w2t ?w2i ?w3 ?w3g ?w3k ?w3t ?w3i ?a_init ?l_init ?c_init ?k_init ?i_init ?u0 ?u0g ?u0k ?a_sources ?l_sources ?c_sources ?k_sources ?u1 ?u1g ?u1k ?a_sinks ?l_sinks ?c_sinks ?k_sinks
    (case a_dip => k_is); (case l_dip => k_is); (case c_dip => k_is); (case k_dip => k_is)
    (case a_choose => k_is); (case l_choose => k_is); (case c_choose => k_is); (case k_choose => k_is)
    (case a_shuffled => k_is); (case l_shuffled => k_is); (case c_shuffled => k_is); (case k_shuffled => k_is)
    (case a_name => k_is); (case l_name => k_is); (case c_name => k_is); (case k_name => k_is)
    (case a_free => k_is); (case l_free => k_is); (case c_free => k_is); (case k_free => k_is)
    (case a_names => k_is); (case l_names => k_is); (case c_names => k_is); (case k_names => k_is)
    (case a_signs => k_is); (case l_signs => k_is); (case c_signs => k_is); (case k_signs => k_is)
    (case a_parts => k_is); (case l_parts => k_is); (case c_parts => k_is); (case k_parts => k_is)
    (case a_filled => k_is); (case l_filled => k_is); (case c_filled => k_is); (case k_filled => k_is)
    (case a_p_name => k_is); (case l_p_name => k_is); (case c_p_name => k_is); (case k_p_name => k_is)
    (case a_p_signs => k_is); (case l_p_signs => k_is); (case c_p_signs => k_is); (case k_p_signs => k_is)
    (case a_p_part => k_is); (case l_p_part => k_is); (case c_p_part => k_is); (case k_p_part => k_is)
    (case a_p_parts => k_is); (case l_p_parts => k_is); (case c_p_parts => k_is); (case k_p_parts => k_is)
    (case a_p_streams => k_is); (case l_p_streams => k_is); (case c_p_streams => k_is); (case k_p_streams => k_is)
    (case a_j_letters => k_is); (case l_j_letters => k_is); (case c_j_letters => k_is); (case k_j_letters => k_is)
    (case a_j_name => k_is); (case l_j_name => k_is); (case c_j_name => k_is); (case k_j_name => k_is)
    (case a_j_signs => k_is); (case l_j_signs => k_is); (case c_j_signs => k_is); (case k_j_signs => k_is)
    (case a_j_parts => k_is); (case l_j_parts => k_is); (case c_j_parts => k_is); (case k_j_parts => k_is)
    (case a_j_streams => k_is); (case l_j_streams => k_is); (case c_j_streams => k_is); (case k_j_streams => k_is)
    (case a_odd_text => k_is); (case l_odd_text => k_is); (case c_odd_text => k_is); (case k_odd_text => k_is)
    (case a_near => k_is); (case l_near => k_is); (case c_near => k_is); (case k_near => k_is)
    (case a_met => k_is); (case l_met => k_is); (case c_met => k_is); (case k_met => k_is)
    (case a_texts_right => k_is); (case l_texts_right => k_is); (case c_texts_right => k_is); (case k_texts_right => k_is)
    (case a_streams_right => k_is); (case l_streams_right => k_is); (case c_streams_right => k_is); (case k_streams_right => k_is)
    (case a_law => k_is); (case l_law => k_is); (case c_law => k_is); (case k_law => k_is)
    (case z_len => k_is); (case z_int => k_is); (case z_abs => k_is); (case z_max => k_is)
    (case z_min => k_is); (case z_list => k_is); (case z_tuple => k_is); (case z_range => k_is)
    (case z_sorted => k_is); (case z_isinstance => k_is); (case z_str => k_is); (case z_all => k_is)
    (case z_zip => k_is); (case z_set => k_is); (case z_repr => k_is); (case z_dict => k_is)
    (case g_LETTERS => k_is); (case g_END => k_is); (case g_MAX_NAME => k_is); (case g_MAX_SIGNS => k_is)
    (case g_MAX_STREAMS => k_is); (case g_MAX_WORD => k_is); (case nC => k_is); (case nS => k_is)
    (case kS => k_is); (case xS => k_exc); (case bS => k_is); (case tS => k_is)
    (case iS => k_is); (case sS => first | rfl | k_is); (case pg => k_is); (case ic => k_is)
    (case po => k_is); (case sa => k_is); (case mk => k_is); (case kC => k_is)
    (case w0 => k_is); (case w0g => k_is); (case w0k => k_is); (case w0t => k_is)
    (case w0i => k_is); (case w1 => k_is); (case w1g => k_is); (case w1k => k_is)
    (case w1t => k_is); (case w1i => k_is); (case w2 => k_is); (case w2g => k_is)
    (case w2k => k_is); (case w2t => k_is); (case w2i => k_is); (case w3 => k_is)
    (case w3g => k_is); (case w3k => k_is); (case w3t => k_is); (case w3i => k_is)
    (case a_init => k_is); (case l_init => k_is); (case c_init => k_is); (case k_init => k_is)
    (case i_init => k_is); (case u0 => k_is); (case u0g => k_is); (case u0k => k_is)
    (case a_sources => k_is); (case l_sources => k_is); (case c_sources => k_is); (case k_sources => k_is)
    (case u1 => k_is); (case u1g => k_is); (case u1k => k_is); (case a_sinks => k_is)
    (case l_sinks => k_is); (case c_sinks => k_is); (case k_sinks => k_is)
