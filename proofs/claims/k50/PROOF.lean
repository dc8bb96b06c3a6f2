import PyProof.Rows.All
import Wide.All
import OpenK.AllK
import Wide.FinOn
import HandS.ForMost
import HandS.Conv
import HandS.IsInst
import HandS.Slots
import HandS.SlotsOwn
import HandS.DictComp
import HandS.TupAny
import HandS.Exc
import HandS.TryOnly
import HandS.ExcOwn
import HandS.WordsExc
import HandS.Wide
import HandS.Zip
import HandS.Codes
import PySem.Challenge.RW_fewersteps_k50_rules_told
import HandS.Walk
import KE.GoesMore
import KE.GoesEnum
import HandS.Strs
import PyProof.InstNe
import PyProof.InstEq
import HandS.Defaults
import KE.KExcSuper
import KE.KExcInit
import HandS.Iter
import HandS.Lambda
import HandS.ExcField
import HandS.ClsMeth
import HandS.Star
import HandS.Deep
import HandS.FStr
import KE.KEqNest
import HandS.SortRule
import HandS.NamedTupSort
import KE.KSortTupAny
import HandS.Style
import HandS.TupSets
import HandS.Finally
import HandS.EndTab
import KE.KNestM
set_option Elab.async false
set_option maxRecDepth 100000
set_option maxHeartbeats 4000000
set_option linter.all false
set_option pp.maxSteps 250
namespace Fs
open PySem PySem.Spec PyProof.Rows L2 SlX RZ
/-! ### the text by places -/
def top (i : Nat) : Stmt := PySem.Challenge.pw_fewersteps_k50_rules_told.main.body.getD i (.Pass ⟨0, 0, 0, 0⟩)
/-! ### promises of defs that run where no repr is on its way: the promise of L2 with what is known of the guards -/
structure FnG (P : Program) (w : World) (K : PySem.W.Frag) (mg : Str → Option Value) (base : Heap) (CX : CXT) (k : Nat) (f : Addr) (fd : FuncData) (ps : List Str) (sp : Sp) : Prop where
  lens : ∀ vs H Q E, sp vs H Q E → vs.length = ps.length
  goes : ∀ (A : Around) (outer : List Env) (s : Shared) (H : Hp) (args : Args) (us : List Value) (vs : List V) (Q : VK) (E : XK), Room k A → A.guards = some [] → Env0 P w K mg base A outer s H →
    BindsTo s fd args (ps.zip us) → Vals vs us → sp vs H Q E → codeAny (model P w) A (.call (.ref f) args) (CR CX outer P w H s Q E) s
section
variable {P : Program} {w : World} {K : PySem.W.Frag} {mg : Str → Option Value} {base : Heap} {CX : CXT} {k j : Nat} {f : Addr} {fd : FuncData} {ps : List Str} {sp : Sp}
theorem FnG.of (F : FnOk P w K mg base CX k f fd ps sp) : FnG P w K mg base CX k f fd ps sp := ⟨F.len, fun A outer s H args us vs Q E hr _ => F.run A outer s H args us vs Q E hr⟩
theorem FnG.more (F : FnG P w K mg base CX j f fd ps sp) (h : j ≤ k) : FnG P w K mg base CX k f fd ps sp :=
  ⟨F.lens, fun A outer s H args us vs Q E hr => F.goes A outer s H args us vs Q E (hr.mono h)⟩
/-- a promise by its body -/
theorem FnG.by {x qual : Str} {st : Stmt} {N : List Str} (F : L2.Fun K x qual st f fd) (S : FnScope N ps (defScope st)) (lens : ∀ vs H Q E, sp vs H Q E → vs.length = ps.length)
    (body : ∀ (cdv : Value) (A : Around) (outer : List Env) (s : Shared) (H : Hp) (vs : List V) (Q : VK) (E : XK), Room k (A.deeper (envOfC qual (defScope st) s.heap.objs.size f cdv)) → A.guards = some [] → sp vs H Q E →
      ∃ t, PSs (cxOf CX P w K mg base N qual (defScope st) f cdv A outer s H E) (defBody st) t ∧ t { nx := fun _ H' => Q .non H', rt := Q } (start N vs) H) : FnG P w K mg base CX (k + 1) f fd ps sp := by
  obtain ⟨c1, d1, v1, v2, v3, n1, cdv, v4, sl, efd, look, code⟩ := F.ex
  subst efd
  constructor
  · exact lens
  intro A outer s H args us vs Q E room guards env bind rel want
  have inK : K.In s.heap := env.mod.kin.keeps fun b o e => And.left (env.bs b o e)
  have noLim : s.heap.NoLimit := env.mod.nolimit.keeps fun b o e => And.left (env.bs b o e)
  have kinds : ∀ z ∈ ps.zip us, (defScope st).names.lookup z.1 = some .local ∨ ((defScope st).names.lookup z.1 = some .cell ∧ ((cellsFrom (s.heap.objs.size + 1) (defScope st).names []).lookup z.1).isSome = true) := by
    rintro ⟨nm, val⟩ hz
    cases S.par nm (List.of_mem_zip hz).1 with
    | inl c => exact Or.inl c
    | inr c => exact Or.inr ⟨c, PySem.W.cellsFrom_some _ _ _ (Or.inl c)⟩
  refine codeAny_call_function room.depth (inK _ _ look) rfl S.co S.gen rfl (PySem.W.codeRec_of inK code) (bind _ _ _ _ (wpAny_newFunctionEnv_cells S.kind kinds ?_))
  intro env' eEnv s' made
  subst eEnv
  refine And.intro (noLim.keeps made.toInCall.keep) (codeAny_func ?_)
  rcases body cdv A outer s H vs Q E (room.deeper _) guards want with ⟨t, der, rd⟩
  have J := inv_start (CX := CX) (E := E) S room.hd env (lens _ _ _ _ want) rel made
  have done : ∀ {σ2 : L2.St} {H2 : Hp} {s2 : Shared} {v : V} {u : Value}, Inv (cxOf CX P w K mg base N qual (defScope st) f cdv A outer s H E) [] σ2 H2 s2 → RelV v u → Q v H2 → CE outer P w H s Q u s2 := by
    intro σ2 H2 s2 v u J2 r2 q2
    exact ⟨v, H2, J2.os, J2.bare, J2.base, J2.hok, r2, q2⟩
  refine wpAny_mono (der.run [] s' _ H _ J rd) ?_ (fun _ _ he => he)
  intro fl s2 h2
  cases fl
  case ret u => rcases h2 with ⟨v, σ2, H2, J2, r2, q2⟩; exact done J2 r2 q2
  case next => rcases h2 with ⟨σ2, H2, J2, q2⟩; exact done (v := .non) (u := .none) J2 rfl q2
  case brk => rcases h2 with ⟨_, _, _, q2⟩; cases q2
  case cont => rcases h2 with ⟨_, _, _, q2⟩; cases q2
end
section
variable {X : Cx} {CX : CXT} {k : Nat} {f : Addr} {fd : FuncData} {ps : List Str} {sp : Sp} {E : XK} {x : Str} {p pos : Pos} {e : Expr} {es : List Expr} {t : TA}
/-- such a def is called with values -/
theorem call_g {pins : List (Addr × Obj)} {σ : L2.St} {H : Hp} {s : Shared} {Q : VK} {us : List Value} {vs : List V} (F : FnG X.prog X.w X.K X.mg X.base CX k f fd ps sp) (room : Room k X.A) (guards : X.A.guards = some []) (bind : Binds X.K fd ps [])
    (pass : Passes CX X E) (I : Inv X pins σ H s) (rel : Vals vs us) (want : sp vs H Q E) : wpAny (model X.prog X.w) X.A (call (.ref f) us) (EP X pins σ Q) X.xe s := by
  have e1 : (us ++ ([] : List Value)).length = ps.length := by rw [List.append_nil, ← rel.length]; exact F.lens _ _ _ _ want
  have b1 := bind s us I.kIn e1
  rw [List.append_nil] at b1
  apply wpAny_call
  refine codeAny_mono (F.goes X.A X.stack s H ⟨us, []⟩ us vs Q E room guards I.env0 b1 rel want) ?_
  intro r s' h
  match r, h with
  | .error err, h => exact pass pins σ H s err s' I h
  | .ok (.ret u), h => exact I.after h
  | .ok .next, h => exact h.elim
  | .ok .brk, h => exact h.elim
  | .ok .cont, h => exact h.elim
/-- f(e, ..) -/
theorem pe_callG (F : FnG X.prog X.w X.K X.mg X.base CX k f fd ps sp) (room : Room k X.A) (guards : X.A.guards = some []) (hg : Gl X x) (hm : X.mg x = some (.ref f)) (hk : PySem.W.keepIn X.K (.ref f) = true) (bind : Binds X.K fd ps [])
    (pass : Passes CX X E) (ha : PA X (e :: es) t) (hdb : (x == ("__debug__" : Str)) = false := by decide)
    (he : starEach (e :: es) X.env = (false, eval e X.env) :: starEach es X.env := by rfl) (hpl : (backTo pos (starEach es X.env)).any (·.1) = false := by rfl) : PE X (.Call (.Name x p) (e :: es) [] pos) (tCallS sp (fun _ => E) t) := by
  constructor
  intro pins s σ H Q I want
  apply wpAny_Call_Name_kw
  refine ld_glob I hg hm ?_ hdb
  refine PySem.W.callWith_K (h₀ := X.base) I.ok.mod.kin hk ?_ he hpl
  refine thn (ha.run pos pins s σ H _ I want) ?_
  rintro us s2 ⟨vs, H2, I2, rel, q⟩
  exact ⟨I2.kIn, call_g F room guards bind pass I2 rel q⟩
end
/-! ### a def that may be called by its name -/
structure Df (K : PySem.W.Frag) (mg : Str → Option Value) (x : Str) (st : Stmt) (ps : List Str) : Prop where
  ex : ∃ (f : Addr) (fd : FuncData), L2.Fun K x x st f fd ∧ mg x = some (.ref f) ∧ Binds K fd ps []
structure Cal (P : Program) (w : World) (K : PySem.W.Frag) (mg : Str → Option Value) (base : Heap) (k : Nat) (x : Str) (sp : Sp) : Prop where
  ex : ∃ (f : Addr) (fd : FuncData) (ps : List Str), FnG P w K mg base CX0 k f fd ps sp ∧ mg x = some (.ref f) ∧ PySem.W.keepIn K (.ref f) = true ∧ Binds K fd ps []
/-- the room and the guards of a body -/
structure Rm (k : Nat) (A : Around) : Prop where
  rm : Room k A
  gd : A.guards = some []
section
variable {P : Program} {w : World} {K : PySem.W.Frag} {mg : Str → Option Value} {base : Heap}
theorem Df.cal {x : Str} {st : Stmt} {N ps : List Str} {k : Nat} {sp : Sp} (D : Df K mg x st ps) (S : FnScope N ps (defScope st)) (lens : ∀ vs H Q E, sp vs H Q E → vs.length = ps.length)
    (body : ∀ (f : Addr) (cdv : Value) (A : Around) (outer : List Env) (s : Shared) (H : Hp) (vs : List V) (Q : VK) (E : XK), Rm k (A.deeper (envOfC x (defScope st) s.heap.objs.size f cdv)) → sp vs H Q E →
      ∃ t, PSs (cxOf CX0 P w K mg base N x (defScope st) f cdv A outer s H E).nox (defBody st) t ∧ t { nx := fun _ H' => Q .non H', rt := Q } (start N vs) H) : Cal P w K mg base (k + 1) x sp := by
  obtain ⟨f, fd, F, m, b⟩ := D.ex
  refine ⟨f, fd, ps, FnG.by F S lens (fun cdv A outer s H vs Q E room guards want => ?_), m, F.kp, b⟩
  obtain ⟨t, d, r⟩ := body f cdv A outer s H vs Q E ⟨room, guards⟩ want
  exact ⟨t, d.nox, r⟩
end
section
variable {X : Cx} {k j : Nat} {x : Str} {sp : Sp} {p pos : Pos} {e : Expr} {es : List Expr} {t : TA}
/-- f(e, ..), f a def of the module -/
theorem pc (c : Cal X.prog X.w X.K X.mg X.base k x sp) (hr : Rm j X.A) (ha : PA X (e :: es) t) (hk : k ≤ j := by decide) (hg : Gl X x := by rfl)
    (hdb : (x == ("__debug__" : Str)) = false := by decide) (he : starEach (e :: es) X.env = (false, eval e X.env) :: starEach es X.env := by rfl) (hpl : (backTo pos (starEach es X.env)).any (·.1) = false := by rfl) :
    PE X (.Call (.Name x p) (e :: es) [] pos) (tCallS sp (fun _ => E0) t) := by
  obtain ⟨f, fd, ps, F, hm, kp, b⟩ := c.ex
  exact pe_callG F (hr.rm.mono hk) hr.gd hg hm kp b pass0 ha hdb he hpl
/-- a built-in function, a built-in class, called by name -/
theorem pb {id : String} {r : List V → Hp → VK → Prop} (hc : CallR X (.builtin id) r) (hm : X.mg x = none) (ha : PA X (e :: es) t) (hv : bootBuiltins x = some (.builtin id) := by decide +kernel) (hg : Gl X x := by rfl) (hn : x ≠ "__name__" := by decide) (hdb : (x == ("__debug__" : Str)) = false := by decide)
    (he : starEach (e :: es) X.env = (false, eval e X.env) :: starEach es X.env := by rfl) (hpl : (backTo pos (starEach es X.env)).any (·.1) = false := by rfl) : PE X (.Call (.Name x p) (e :: es) [] pos) (tCB r t) := pe_callB hc hg hm hv ha hn hdb he hpl
theorem pt {T : String} {r : List V → Hp → VK → Prop} (hc : CallR X (.type T) r) (hm : X.mg x = none) (ha : PA X (e :: es) t) (hv : bootBuiltins x = some (.type T) := by decide +kernel) (hg : Gl X x := by rfl) (hn : x ≠ "__name__" := by decide) (hdb : (x == ("__debug__" : Str)) = false := by decide)
    (he : starEach (e :: es) X.env = (false, eval e X.env) :: starEach es X.env := by rfl) (hpl : (backTo pos (starEach es X.env)).any (·.1) = false := by rfl) : PE X (.Call (.Name x p) (e :: es) [] pos) (tCB r t) := pe_callTy hc hg hm hv ha hn hdb he hpl
end
/-! ### rules that hand on a letter -/
theorem OpR.imp {X : Cx} {f : Value → Value → Sem Value} {r r' : R2} (h : OpR X f r) (hi : ∀ x y H Q, r' x y H Q → r x y H Q) : OpR X f r' :=
  fun pins s σ H x y v u Q I rx ry q => h pins s σ H x y v u Q I rx ry (hi x y H Q q)
theorem CallR.imp {X : Cx} {f : Value} {r r' : List V → Hp → VK → Prop} (h : CallR X f r) (hi : ∀ xs H Q, r' xs H Q → r xs H Q) : CallR X f r' :=
  fun pins s σ H xs us Q I rx q => h pins s σ H xs us Q I rx (hi xs H Q q)
theorem MtR.imp {X : Cx} {id : String} {r r' : V → List V → Hp → VK → Prop} (h : MtR X id r) (hi : ∀ x xs H Q, r' x xs H Q → r x xs H Q) : MtR X id r' :=
  fun pins s σ H x xs v us Q I rx rs q => h pins s σ H x xs v us Q I rx rs (hi x xs H Q q)
/-- a % b, b positive: any rest -/
def rModR : R2 := fun x y H Q => ∃ i j, x = .int i ∧ y = .int j ∧ 0 < j ∧ ∀ r, 0 ≤ r → r < j → Q (.int r) H
theorem op_modR {X : Cx} : OpR X (binaryOp .Mod) rModR := OpR.imp op_modN fun x y H Q ⟨i, j, e1, e2, hj, q⟩ => ⟨i, j, e1, e2, by omega, q _ (Int.fmod_nonneg_of_pos _ hj) (Int.fmod_lt_of_pos _ hj)⟩
/-- a // b, a not negative, b positive and small: any part -/
def rDivR : R2 := fun x y H Q => ∃ i j, x = .int i ∧ y = .int j ∧ 0 ≤ i ∧ 0 < j ∧ j < 1073741824 ∧ ∀ r, 0 ≤ r → r ≤ i → Q (.int r) H
theorem op_divR {X : Cx} : OpR X (binaryOp .FloorDiv) rDivR := OpR.imp op_fdivN fun x y H Q ⟨i, j, e1, e2, h0, hj, hj2, q⟩ => ⟨i, j, e1, e2, ⟨by omega, by omega⟩, q _ (Int.fdiv_nonneg h0 (by omega)) (by
  rw [Int.fdiv_eq_ediv_of_nonneg _ (by omega)]
  exact Int.ediv_le_self _ h0)⟩
/-- int of an int -/
def rIntI : List V → Hp → VK → Prop := fun xs H Q => ∃ i, xs = [.int i] ∧ Q (.int i) H
theorem call_intI {X : Cx} : CallR X (.type "int") rIntI := CallR.imp call_int1 fun xs H Q h => .inl h
/-- a * b of ints, one of them below 2 ^ 64: any int -/
def rMulR : R2 := fun x y H Q => ∃ i j, x = .int i ∧ y = .int j ∧ CMul i j ∧ ∀ r, r = i * j → Q (.int r) H
theorem op_mulR {X : Cx} : OpR X (binaryOp .Mult) rMulR := OpR.imp op_mul fun x y H Q ⟨i, j, e1, e2, c, q⟩ => ⟨i, j, e1, e2, c, q _ rfl⟩
/-! ### the built-in names that the text does not bind -/
structure Bs (mg : Str → Option Value) : Prop where
  z_len : mg "len" = none
  z_int : mg "int" = none
  z_abs : mg "abs" = none
  z_max : mg "max" = none
  z_min : mg "min" = none
  z_list : mg "list" = none
  z_tuple : mg "tuple" = none
  z_range : mg "range" = none
  z_sorted : mg "sorted" = none
  z_isinstance : mg "isinstance" = none
  z_str : mg "str" = none
  z_all : mg "all" = none
  z_zip : mg "zip" = none
  z_set : mg "set" = none
  z_repr : mg "repr" = none
  z_dict : mg "dict" = none
/-! ### the pot -/
/-- the pot at a: what is left of the digits, the seed, how often it was drawn -/
structure Pot (H : Hp) (a : Addr) : Prop where
  ex : ∃ p0 p1 p2 : Int, H a = some (.lst [.int p0, .int p1, .int p2]) ∧ 0 ≤ p0 ∧ 0 ≤ p1 ∧ p1 < 2305843009213693951 ∧ 0 ≤ p2
/-- the heap without what stands at a -/
def hid (a : Addr) (H : Hp) : Hp := fun b => if b = a then none else H b
theorem hid_ne {a b : Addr} {H : Hp} (h : b ≠ a) : hid a H b = H b := if_neg h
theorem hid_some {a b : Addr} {H : Hp} {o : HO} (h : hid a H b = some o) : b ≠ a ∧ H b = some o := by
  unfold hid at h
  by_cases e : b = a
  · rw [if_pos e] at h; cases h
  · rw [if_neg e] at h; exact ⟨e, h⟩
theorem hid_le (a : Addr) (H : Hp) : Same (hid a H) H := fun _ _ h => (hid_some h).2
theorem hid_upd_self {a : Addr} {H : Hp} {o : HO} : hid a (upd H a o) = hid a H := by
  funext b
  by_cases e : b = a
  · subst e; unfold hid; rw [if_pos rfl, if_pos rfl]
  · rw [hid_ne e, hid_ne e, upd_ne e]
/-- from H to H': the pot stays a pot, all else stays -/
structure Stp (a : Addr) (H H' : Hp) : Prop where
  pot : Pot H' a
  same : Same (hid a H) (hid a H')
theorem Stp.refl {a : Addr} {H : Hp} (h : Pot H a) : Stp a H H := ⟨h, Same.refl _⟩
theorem Stp.trans {a : Addr} {H H1 H2 : Hp} (x : Stp a H H1) (y : Stp a H1 H2) : Stp a H H2 := ⟨y.pot, x.same.trans y.same⟩
theorem Pot.ne {H : Hp} {a p : Addr} (h : Pot H a) (hp : H p = none) : p ≠ a := by
  obtain ⟨_, _, _, e, _⟩ := h.ex
  exact (ne_of_none e hp).symm
theorem Pot.upd {H : Hp} {a p : Addr} {o : HO} (h : Pot H a) (hp : p ≠ a) : Pot (upd H p o) a := by
  obtain ⟨p0, p1, p2, e, r⟩ := h.ex
  exact ⟨p0, p1, p2, by rw [upd_ne hp.symm]; exact e, r⟩
/-- a new object -/
theorem Stp.new {a p : Addr} {H H1 : Hp} {o : HO} (x : Stp a H H1) (hp : H1 p = none) : Stp a H (upd H1 p o) :=
  ⟨x.pot.upd (x.pot.ne hp), fun b u e => by
    obtain ⟨hb, e1⟩ := hid_some (x.same b u e)
    rw [hid_ne hb, upd_ne (ne_of_none e1 hp)]
    exact e1⟩
/-- an object that H does not know is changed -/
theorem Stp.mut {a p : Addr} {H H1 : Hp} {o : HO} (x : Stp a H H1) (hp : H p = none) (ne : p ≠ a) : Stp a H (upd H1 p o) :=
  ⟨x.pot.upd ne, fun b u e => by
    obtain ⟨hb, e1⟩ := hid_some (x.same b u e)
    obtain ⟨_, e0⟩ := hid_some e
    rw [hid_ne hb, upd_ne (ne_of_none e0 hp)]
    exact e1⟩
theorem Stp.get {a b : Addr} {H H1 : Hp} {o : HO} (x : Stp a H H1) (h : H b = some o) (ne : b ≠ a) : H1 b = some o :=
  (hid_some (x.same b o (by rw [hid_ne ne]; exact h))).2
theorem Stp.free {a p : Addr} {H H1 : Hp} (x : Stp a H H1) (h : H1 p = none) (ne : p ≠ a) : H p = none := by
  cases q : H p with
  | none => rfl
  | some o => rw [x.get q ne] at h; cases h
section
variable {P : Program} {w : World} {K : PySem.W.Frag} {mg : Str → Option Value} {base : Heap}
end
end Fs
namespace Fs
open PySem PySem.Spec PyProof.Rows L2 SlX RZ
/-! ### the law's call, from such a promise -/
section
variable {P : Program} {w : World} {K : PySem.W.Frag} {mg mb : Str → Option Value} {CX : CXT} {k : Nat} {fa a : Addr} {fd : FuncData} {x : Str} {sp : Sp} {s1 : Shared} {vs : List Value} {ns : List Int}
/-- from an abstract heap that knows at most the script -/
theorem begin_at (inK : K.In s1.heap) (n1 : s1.heap.Ns mainGlobals mg) (n2 : s1.heap.Ns builtinsNs mb) (n3 : ∀ y : Str, y ≠ "__name__" → mb y = bootBuiltins y) (lim : s1.heap.NoLimit) (gens : s1.gens = #[])
    (obj : s1.heap.get? a = some { cls := .type "list", data := .seq vs.toArray }) (room : Room k callerA)
    (F : ∀ base : Heap, K.In base → base.Ns mainGlobals mg → FnG P w K mg base CX k fa fd [x] sp) (bind : ∀ (s : Shared) (u : Value), BindsTo s fd ⟨[u], []⟩ [(x, u)])
    (H : Hp) (only : Only H) (want : sp [.ref a] H (fun v _ => v = .bl true) fun _ _ _ => False) (hok : HOk P w H s1.heap) (knows : ∀ b, H b ≠ none → b = a) (own : H a ≠ none → K.lookup a = none)
    (exc : ∀ e s', CX [] H s1 (fun _ _ _ => False) e s' → False) :
    codeAny (model P w) callerA (.call (.ref fa) ⟨[.ref a], []⟩) (fun r s' => r = .ok (.ret (.bool true)) ∧ OldK s1.heap s'.heap ∧ s'.os = s1.os ∧ AllBare s'.gens) s1 := by
  have not_dict : ∀ (b : Addr) (o : Obj) (es : Array DictEntry) (ep : Nat), s1.heap.get? b = some o → o.data = .dict es ep → H b = none := by
    intro b o es ep h1 h2
    by_cases hb : H b = none
    · exact hb
    · have e1 := knows b hb
      rw [e1, obj] at h1
      cases h1
      cases h2
  have nsp : ∀ (b : Addr) (m : Str → Option Value), s1.heap.Ns b m → (hidT s1.heap H).Ns b m := by
    rintro b m ⟨o, es, ep, h1, h2, h3⟩
    exact ⟨o, es, ep, hidT_get h1 (not_dict b o es ep h1 h2), h2, h3⟩
  have inB : K.In (hidT s1.heap H) := by
    intro b o h1
    refine hidT_get (inK b o h1) ?_
    by_cases hb : H b = none
    · exact hb
    · have e1 := knows b hb
      rw [e1] at h1 hb
      have e2 := own hb
      rw [e2] at h1
      cases h1
  have md : Mod K mg (hidT s1.heap H) := by
    refine ⟨inB, nsp _ _ n1, ⟨mb, nsp _ _ n2, n3⟩, ?_⟩
    obtain ⟨mc, h1, h2⟩ := lim
    exact ⟨mc, nsp _ _ h1, h2⟩
  have e0 : Env0 P w K mg (hidT s1.heap H) callerA [] s1 H :=
    ⟨rfl, md, fun _ _ h1 => of_hidT h1, Nat.le_of_eq (hidT_size _ _), trivial, (fun _ hb => nomatch hb), hok, .of_eq gens⟩
  have run := (F _ inB (nsp _ _ n1)).goes callerA [] s1 H ⟨[.ref a], []⟩ [.ref a] [.ref a] _ _ room rfl e0 (bind s1 (.ref a)) (.cons rfl .nil) want
  refine codeAny_mono run ?_
  intro r s' h
  match r, h with
  | .error e, h => exact (exc e s' h).elim
  | .ok .next, h => exact h.elim
  | .ok .brk, h => exact h.elim
  | .ok .cont, h => exact h.elim
  | .ok (.ret u), h =>
    obtain ⟨v, H', os, bare, un, hok', rel, q⟩ := h
    have q : v = .bl true := q
    subst q
    have eu : u = Value.bool true := rel
    subst eu
    refine ⟨rfl, OldK.of_keep ?_, os, bare⟩
    intro b o h1
    rcases only b with z | ⟨ob, ys, z⟩
    · exact un.keep b o h1 z (fun c => by cases c) (fun c => by cases c)
    · have g1 := (hok b _ z).1
      have g2 := (hok' b _ (un.frzs b ob _ z)).1
      rw [h1] at g1
      cases g1
      exact g2
theorem ints_vals : ∀ {us : List Value} {ms : List Int}, IntsAre us ms → Vals (ms.map V.int) us
  | [], [], .nil => Paired.nil
  | _ :: _, _ :: _, .cons n t h => Paired.cons ⟨t, rfl⟩ (ints_vals h)
theorem begin_g (inK : K.In s1.heap) (n1 : s1.heap.Ns mainGlobals mg) (n2 : s1.heap.Ns builtinsNs mb) (n3 : ∀ y : Str, y ≠ "__name__" → mb y = bootBuiltins y) (lim : s1.heap.NoLimit) (gens : s1.gens = #[])
    (obj : s1.heap.get? a = some { cls := .type "list", data := .seq vs.toArray }) (itv : IntsAre vs ns) (len : ns.length ≤ sizeLine) (room : Room k callerA)
    (F : ∀ base : Heap, K.In base → base.Ns mainGlobals mg → FnG P w K mg base CX k fa fd [x] sp) (bind : ∀ (s : Shared) (u : Value), BindsTo s fd ⟨[u], []⟩ [(x, u)])
    (want : ∀ H : Hp, Only H → SqL K H a (ns.map V.int) → sp [.ref a] H (fun v _ => v = .bl true) fun _ _ _ => False) (exc : ∀ H e s', CX [] H s1 (fun _ _ _ => False) e s' → False) :
    codeAny (model P w) callerA (.call (.ref fa) ⟨[.ref a], []⟩) (fun r s' => r = .ok (.ret (.bool true)) ∧ OldK s1.heap s'.heap ∧ s'.os = s1.os ∧ AllBare s'.gens) s1 := by
  have rel := ints_vals itv
  have sz : (ns.map V.int).length ≤ sizeLine := by rw [List.length_map]; exact len
  by_cases hk : ∃ o, K.lookup a = some o
  · obtain ⟨o, hk⟩ := hk
    have eo := (inK a o hk).symm.trans obj
    cases eo
    have only : Only (fun _ => none) := fun _ => Or.inl rfl
    exact begin_at inK n1 n2 n3 lim gens obj room F bind _ only (want _ only (Or.inr ⟨_, vs.toArray, _, hk, rfl, rfl, rfl, by rw [List.size_toArray, itv.length]; exact len, by simpa using rel⟩))
      (fun _ _ z => nomatch z) (fun _ z => (z rfl).elim) (fun z => (z rfl).elim) (exc _)
  · have hk' : K.lookup a = none := by
      cases q : K.lookup a with
      | none => rfl
      | some o => exact (hk ⟨o, q⟩).elim
    let H0 : Hp := upd (fun _ => none) a (.frz { cls := .type "list", data := .seq vs.toArray } (.lst (ns.map V.int)))
    have at_a : H0 a = some (.frz { cls := .type "list", data := .seq vs.toArray } (.lst (ns.map V.int))) := upd_same
    have off : ∀ b, b ≠ a → H0 b = none := fun b hb => upd_ne hb
    have only : Only H0 := fun b => if e : b = a then Or.inr ⟨_, _, e ▸ at_a⟩ else Or.inl (off b e)
    refine begin_at inK n1 n2 n3 lim gens obj room F bind H0 only (want _ only (Or.inl (Or.inr ⟨_, at_a⟩))) ?_ (fun b hb => ?_) (fun _ => hk') (exc _)
    · intro b u hb
      by_cases e : b = a
      · subst e
        rw [at_a] at hb
        cases hb
        exact ⟨obj, sz, vs, _, rel, obj⟩
      · rw [off b e] at hb
        cases hb
    · by_cases e : b = a
      · exact e
      · exact (hb (off b e)).elim
end
theorem walk_g {l : PySem.W.OpenLaw} {n k : Nat} {q : Program} {loose : List Str} {XP : (Str → Option Value) → Heap → Prop} {YP : World → Heap → Prop} {d : DefRec} {K : Params → PySem.W.Frag} {CX : World → CXT} {sp : World → Sp} {x : Str}
    (h1 : l.most = some n) (h2 : n ≤ sizeLine) (h3 : d.params.defaults = []) (room : Room k callerA) (inK : ∀ (w : World) (h : Heap), YP w h → (K w.params).In h)
    (F : ∀ (w : World) (mg : Str → Option Value) (fa : Addr) (h : Heap), (K w.params).In h → h.Ns mainGlobals mg → mg d.name = some (.ref fa) → ∃ fd : FuncData, (∀ (s : Shared) (u : Value), BindsTo s fd ⟨[u], []⟩ [(x, u)]) ∧
      ∀ base : Heap, (K w.params).In base → base.Ns mainGlobals mg → FnG l.prog w (K w.params) mg base (CX w) k fa fd [x] (sp w))
    (want : ∀ (w : World) (H : Hp) (a : Addr) (ns : List Int), ns.length ≤ n → Only H → SqL (K w.params) H a (ns.map V.int) → sp w [.ref a] H (fun v _ => v = .bl true) fun _ _ _ => False)
    (exc : ∀ (w : World) (H : Hp) (s : Shared) (e : Value) (s' : Shared), CX w [] H s (fun _ _ _ => False) e s' → False) : PySem.W.WalkO q loose XP YP l.row.toRowW d [] (fun f vs => PySem.call f vs) := by
  apply Att.attach_call h1 h3
  intro w s₀ s₁ mg mb fa o pm cd doc a vs ns G Y _ _ _ hmg obj itv len gens
  have inH := inK w _ Y
  obtain ⟨fd, bind, FF⟩ := F w mg fa _ inH G.T.g hmg
  exact begin_g inH G.T.g G.T.b G.T.builtins G.T.nolimit gens obj itv (Nat.le_trans len h2) room FF bind (fun H c1 c2 => want w H a ns len c1 c2) (fun H e s' c => exc w H s₁ e s' c)
end Fs
namespace Fs
open PySem PySem.Spec PyProof.Rows L2 SlX RZ
theorem IxR.imp {X : Cx} {r r' : R2} (h : IxR X r) (hi : ∀ x y H Q, r' x y H Q → r x y H Q) : IxR X r' :=
  fun value slice pins s σ H x y v u Q I rx ry q e => h value slice pins s σ H x y v u Q I rx ry (hi x y H Q q) e
/-- one sign as a text -/
abbrev S1 (c : Nat) : V := .str ⟨#[c]⟩
/-- what may be drawn from: a list, a tuple, a text, with these items -/
def Of3 (K : PySem.W.Frag) (H : Hp) (x : V) (l : List V) : Prop := (∃ p, x = .ref p ∧ (SqL K H p l ∨ SqT K H p l)) ∨ ∃ z : Str, x = .str z ∧ z.length ≤ 100000 ∧ l = z.cps.toList.map S1
theorem same_tup {K : PySem.W.Frag} {H H' : Hp} {a : Addr} {xs : List V} (e : Same H H') (h : SqT K H a xs) : SqT K H' a xs := by
  rcases h with (h | ⟨o, h⟩) | h
  · exact .inl (.inl (e _ _ h))
  · exact .inl (.inr ⟨o, e _ _ h⟩)
  · exact .inr h
theorem Of3.same {K : PySem.W.Frag} {H H' : Hp} {x : V} {l : List V} (e : Same H H') (h : Of3 K H x l) : Of3 K H' x l := by
  rcases h with ⟨p, ex, h | h⟩ | h
  · exact .inl ⟨p, ex, .inl (e.seq h)⟩
  · exact .inl ⟨p, ex, .inr (same_tup e h)⟩
  · exact .inr h
theorem Of3.lst {K : PySem.W.Frag} {H : Hp} {p : Addr} {l : List V} (h : H p = some (.lst l)) : Of3 K H (.ref p) l := .inl ⟨p, rfl, .inl (SqL.of h)⟩
theorem Of3.tup {K : PySem.W.Frag} {H : Hp} {p : Addr} {l : List V} (h : H p = some (.tup l)) : Of3 K H (.ref p) l := .inl ⟨p, rfl, .inr (SqT.of h)⟩
theorem Of3.str {K : PySem.W.Frag} {H : Hp} {z : Str} (h : z.length ≤ 100000) : Of3 K H (.str z) (z.cps.toList.map S1) := .inr ⟨z, rfl, h, rfl⟩
section
variable {X : Cx}
def rLen3 (K : PySem.W.Frag) : List V → Hp → VK → Prop := fun xs H Q => ∃ x l, xs = [x] ∧ Of3 K H x l ∧ Q (.int l.length) H
theorem call_len3 : CallR X (.builtin "len") (rLen3 X.K) := CallR.imp (CallR.or call_len_seq call_len_str) fun xs H Q ⟨x, l, e, h, q⟩ => by
  rcases h with ⟨p, ex, h⟩ | ⟨z, ex, hz, el⟩
  · subst ex
    exact .inl ⟨p, l, e, h, q⟩
  · subst ex el
    refine .inr ⟨z, e, Nat.le_trans hz (by decide), ?_⟩
    rw [List.length_map] at q
    exact q
def rIx3 (K : PySem.W.Frag) : R2 := fun x y H Q => ∃ l i v, y = .int i ∧ Of3 K H x l ∧ 0 ≤ i ∧ l[i.toNat]? = some v ∧ Q v H
theorem atI_of {α : Type} {l : List α} {i : Int} {v : α} (h0 : 0 ≤ i) (h : l[i.toNat]? = some v) : atI l i = some v := by
  have e : ((i.toNat : Nat) : Int) = i := Int.toNat_of_nonneg h0
  rw [← e]
  exact atI_nat h
theorem ix_3 : IxR X (rIx3 X.K) := IxR.imp ix_seq fun x y H Q ⟨l, i, v, ey, h, h0, hv, q⟩ => by
  subst ey
  rcases h with ⟨p, ex, h | h⟩ | ⟨z, ex, hz, el⟩
  · subst ex
    exact .inl ⟨p, l, i, v, rfl, rfl, h, atI_of h0 hv, q⟩
  · subst ex
    exact .inr (.inl ⟨p, l, i, v, rfl, rfl, h, atI_of h0 hv, q⟩)
  · subst ex el
    rw [List.getElem?_map] at hv
    obtain ⟨c, hc, ec⟩ := Option.map_eq_some_iff.mp hv
    subst ec
    exact .inr (.inr ⟨z, i, c, rfl, rfl, Nat.le_trans hz (by decide), atI_of h0 hc, q⟩)
/-- list(x) -/
def rList3 (K : PySem.W.Frag) : List V → Hp → VK → Prop := fun xs H Q => ∃ x l, xs = [x] ∧ Of3 K H x l ∧ ∀ p, H p = none → Q (.ref p) (upd H p (.lst l))
theorem call_listS (hc : X.calm = true) : CallR X (.type "list") (fun xs H Q => ∃ z : Str, xs = [.str z] ∧ z.length ≤ 100000 ∧ ∀ p, H p = none → Q (.ref p) (upd H p (.lst (z.cps.toList.map S1)))) := by
  intro pins s σ H xs us Q I rel h
  obtain ⟨z, ex, hz, q⟩ := h
  subst ex
  obtain ⟨u, eu, rx⟩ := vals1 rel
  subst eu
  obtain ⟨t, et⟩ := rx
  subst et
  have hz' : z.cps.size ≤ sizeLine := Nat.le_trans hz (by decide)
  refine call_list_str (I.ok.hd hc) z t (fun h' tk acc c kp at_ of_ => ?_) hz'
  refine ⟨.ref _, _, I.laid (t' := tk) kp (Nat.le_refl _) (show ObjOk X.prog X.w _ h' _ (.lst (z.cps.toList.map S1)) from ⟨?_, acc.toList, c, ?_, by simpa using at_⟩), rfl, q _ (I.hok.fresh (Nat.le_refl _))⟩
  · rw [List.length_map, Array.length_toList]; exact hz'
  · refine vals_of_at (by rw [List.length_map, Array.length_toList, Array.length_toList]; exact of_.1.symm) fun j x w h1 h2 => ?_
    rw [Array.getElem?_toList] at h2
    obtain ⟨c', t', hc', ew⟩ := of_.2 j w h2
    subst ew
    rw [List.getElem?_map, Array.getElem?_toList, hc'] at h1
    cases h1
    exact ⟨t', rfl⟩
theorem call_list3 (hc : X.calm = true) : CallR X (.type "list") (rList3 X.K) := CallR.imp (CallR.or call_list_of (call_listS hc)) fun xs H Q ⟨x, l, e, h, q⟩ => by
  rcases h with ⟨p, ex, h⟩ | ⟨z, ex, hz, el⟩
  · subst ex
    exact .inl ⟨p, l, e, h, q⟩
  · subst ex el
    exact .inr ⟨z, e, hz, q⟩
/-- a ** b for written numbers -/
abbrev CPowR (i j : Int) : Prop := ¬ i = 0 ∧ ¬ i = 1 ∧ ¬ i = -1 ∧ 0 < j ∧ Builtin.Int.intTooBig (((Builtin.Int.intBits i : Nat) : Int) * j) = false
theorem op_powR : OpR X (binaryOp .Pow) (rI CPowR fun i j => .int (i ^ j.toNat)) := opI fun i j t u s Q E c q =>
  PySem.AutoIntOps.pow_4 (by have := c.2.2.2.1; omega) (by have := c.2.2.2.1; simp; omega) (by have h1 := c.1; have h2 := c.2.1; simp [h1, h2]) (by have := c.2.2.1; simpa using this) (by rw [c.2.2.2.2]; decide) q
end
end Fs
namespace Fs
open PySem PySem.Spec PyProof.Rows L2 SlX RZ
section
variable {P : Program} {w : World} {K : PySem.W.Frag} {mg : Str → Option Value} {base : Heap}
theorem seqIndex_of {r : Int} {n : Nat} (h0 : 0 ≤ r) (h1 : r < (n : Int)) : seqIndex? r n = some r.toNat := by
  unfold seqIndex?
  have h2 : ¬ r < 0 := by omega
  simp [h2, h0, h1]
theorem erase_perm {α : Type} : ∀ (l : List α) (i : Nat) (h : i < l.length), (l[i] :: l.eraseIdx i).Perm l
  | x :: l, 0, _ => List.Perm.refl _
  | x :: l, i + 1, h => by
    have h' : i < l.length := Nat.lt_of_succ_lt_succ h
    show (l[i] :: x :: l.eraseIdx i).Perm (x :: l)
    exact (List.Perm.swap _ _ _).trans (List.Perm.cons x (erase_perm l i h'))
/-- one of the items -/
def spChoose (K : PySem.W.Frag) : Sp := fun vs H Q _ => ∃ (a : Addr) (x : V) (l : List V), vs = [.ref a, x] ∧ Pot H a ∧ Of3 K (hid a H) x l ∧ l ≠ [] ∧ l.length ≤ 100000 ∧ ∀ (v : V) (H' : Hp), v ∈ l → Stp a H H' → Q v H'
end
/-! ### letters, names, signs -/
def lowL (l : List Nat) : Bool := l.all fun c => decide (97 ≤ c) && decide (c ≤ 122)
def ascL : List Nat → Bool
  | [] => true
  | [_] => true
  | a :: b :: r => decide (a < b) && ascL (b :: r)
def nameL (l : List Nat) : Bool := decide (1 ≤ l.length) && decide (l.length ≤ 8) && lowL l && !decide (l = [101, 110, 100])
def signsL (l : List Nat) : Bool := decide (1 ≤ l.length) && decide (l.length ≤ 4) && lowL l && ascL l
abbrev cps (x : Str) : List Nat := x.cps.toList
theorem cps_S (l : List Nat) : cps (SX.S l) = l := rfl
theorem len_cps (x : Str) : x.length = (cps x).length := (Array.length_toList ..).symm
theorem cps_inj {x y : Str} (h : cps x = cps y) : x = y := by
  rw [← SX.S_tl x, ← SX.S_tl y]
  exact congrArg SX.S h
theorem joinL_nil : ∀ ls : List (List Nat), TL.joinL [] ls = ls.flatten
  | [] => rfl
  | [l] => by simp [TL.joinL]
  | l :: m :: r => by
    show l ++ ([] ++ TL.joinL [] (m :: r)) = _
    rw [joinL_nil (m :: r)]
    simp
theorem cps_join (ys : List Str) : cps (Txt.join "" ys) = (ys.map cps).flatten := by
  rw [TL.join_eq]
  exact (TL.tl_join "" ys).trans (joinL_nil _)
/-- one-letter texts -/
def onesL (ys : List Str) : Prop := ∀ y ∈ ys, ∃ c, cps y = [c] ∧ 97 ≤ c ∧ c ≤ 122
theorem ones_flat : ∀ {ys : List Str}, onesL ys → ((ys.map cps).flatten).length = ys.length ∧ lowL (ys.map cps).flatten = true
  | [], _ => ⟨rfl, rfl⟩
  | y :: ys, h => by
    obtain ⟨c, e, h1, h2⟩ := h y (List.mem_cons_self ..)
    obtain ⟨i1, i2⟩ := ones_flat (ys := ys) fun z hz => h z (List.mem_cons_of_mem _ hz)
    rw [List.map_cons, List.flatten_cons, e]
    refine ⟨by rw [List.length_append, i1]; simp; omega, ?_⟩
    show lowL (c :: _) = true
    unfold lowL at i2 ⊢
    show ((decide (97 ≤ c) && decide (c ≤ 122)) && ((ys.map cps).flatten.all fun c => decide (97 ≤ c) && decide (c ≤ 122))) = true
    rw [i2, decide_eq_true h1, decide_eq_true h2]
    rfl
theorem ones_len {ys : List Str} (h : onesL ys) : (ys.map (·.length)).sum = ys.length := by
  induction ys with
  | nil => rfl
  | cons y ys ih =>
    obtain ⟨c, e, _⟩ := h y (List.mem_cons_self ..)
    rw [List.map_cons, List.sum_cons, ih fun z hz => h z (List.mem_cons_of_mem _ hz), len_cps, e]
    simp; omega
theorem inV_str (x : Str) : ∀ xs : List Str, inV (.str x) (xs.map V.str) = decide (x ∈ xs)
  | [] => rfl
  | y :: xs => by
    show ((y == x) || inV (.str x) (xs.map V.str)) = _
    rw [inV_str x xs]
    by_cases e : y = x
    · subst e; simp
    · have e' : ¬ x = y := fun q => e q.symm
      have hb : (y == x) = false := beq_eq_false_iff_ne.mpr e
      rw [hb]; simp [e']
theorem all_flat (xs : List Str) : (xs.map V.str).all flatV = true := by
  induction xs with
  | nil => rfl
  | cons x xs ih => rw [List.map_cons, List.all_cons, ih]; rfl
/-- a new list's items may be drawn -/
theorem Of3.newL {K : PySem.W.Frag} {H : Hp} {a p : Addr} {l : List V} (hp : p ≠ a) : Of3 K (hid a (upd H p (.lst l))) (.ref p) l := .lst (by rw [hid_ne hp, upd_same])
theorem pigeon {α : Type} [DecidableEq α] : ∀ {l m : List α}, l.Nodup → (∀ x ∈ l, x ∈ m) → l.length ≤ m.length
  | [], _, _, _ => Nat.zero_le _
  | x :: l, m, nd, h => by
    have nd' := List.nodup_cons.mp nd
    have hx := h x (List.mem_cons_self ..)
    have := pigeon (l := l) (m := m.erase x) nd'.2 fun y hy => (List.mem_erase_of_ne (fun (e : y = x) => nd'.1 (by rw [← e]; exact hy))).mpr (h y (List.mem_cons_of_mem _ hy))
    rw [List.length_erase_of_mem hx] at this
    have : 0 < m.length := List.length_pos_of_mem hx
    simp only [List.length_cons]; omega
section
variable {P : Program} {w : World} {K : PySem.W.Frag} {mg : Str → Option Value} {base : Heap}
theorem same_upd {H H1 : Hp} {p : Addr} {o : HO} (e : Same H H1) (hp : H1 p = none) : Same H (upd H1 p o) := fun b u h => by
  have h1 := e b u h
  rw [upd_ne (ne_of_none h1 hp)]; exact h1
theorem same_mut {H H1 : Hp} {p : Addr} {o : HO} (e : Same H H1) (hp : H p = none) : Same H (upd H1 p o) := fun b u h => by
  rw [upd_ne (ne_of_none h hp)]; exact e b u h
end
section
variable {P : Program} {w : World} {K : PySem.W.Frag} {mg : Str → Option Value} {base : Heap}
theorem Stp.of_same {a : Addr} {H H' : Hp} (h : Pot H a) (e : Same H H') : Stp a H H' := by
  obtain ⟨p0, p1, p2, h1, r⟩ := h.ex
  refine ⟨⟨p0, p1, p2, e _ _ h1, r⟩, fun b o q => ?_⟩
  obtain ⟨hb, q1⟩ := hid_some q
  rw [hid_ne hb]; exact e _ _ q1
end
def one1 (c : Nat) : Str := ⟨#[c]⟩
theorem lt_one (c d : Nat) : ltCps (cps (one1 c)) (cps (one1 d)) = decide (c < d) := by
  show ltCps [c] [d] = _
  unfold ltCps
  by_cases h : c < d
  · simp [h]
  · simp [h, ltCps]
theorem asc_of_sorted : ∀ (cs : List Nat) (c : Nat), risingS (one1 c) (cs.map one1) = true → (c :: cs).Nodup → ascL (c :: cs) = true
  | [], _, _, _ => rfl
  | d :: cs, c, h, nd => by
    have h' : (!ltCps (cps (one1 d)) (cps (one1 c)) && risingS (one1 d) (cs.map one1)) = true := h
    rw [lt_one, Bool.and_eq_true] at h'
    have nd' := List.nodup_cons.mp nd
    have ne : c ≠ d := fun e => nd'.1 (e ▸ List.mem_cons_self ..)
    have h1 : ¬ d < c := by simpa using h'.1
    show (decide (c < d) && ascL (d :: cs)) = true
    rw [asc_of_sorted cs d h'.2 nd'.2, decide_eq_true (by omega : c < d)]
    rfl
theorem asc_sorted {cs : List Nat} (h : PyProof.Rows.sortedS (cs.map one1) = true) (nd : cs.Nodup) : ascL cs = true := by
  cases cs with
  | nil => rfl
  | cons c cs => exact asc_of_sorted cs c h nd
/-- texts among values -/
def unStr : V → Str
  | .str x => x
  | _ => ""
theorem perm_strs {l : List V} {xs : List Str} (h : l.Perm (xs.map V.str)) : ∃ ys : List Str, l = ys.map V.str ∧ ys.Perm xs := by
  refine ⟨l.map unStr, ?_, ?_⟩
  · rw [List.map_map]
    conv => lhs; rw [← List.map_id l]
    refine List.map_congr_left fun v hv => ?_
    obtain ⟨x, _, rfl⟩ := List.mem_map.mp (h.mem_iff.mp hv)
    rfl
  · have := h.map unStr
    rw [List.map_map] at this
    have e : xs.map (unStr ∘ V.str) = xs := by
      conv => rhs; rw [← List.map_id xs]
      rfl
    rw [e] at this
    exact this
theorem perm_ones {ys : List Str} {cs : List Nat} (h : ys.Perm (cs.map one1)) : ∃ ds : List Nat, ys = ds.map one1 ∧ ds.Perm cs := by
  refine ⟨ys.map fun y => (cps y).headD 0, ?_, ?_⟩
  · rw [List.map_map]
    conv => lhs; rw [← List.map_id ys]
    refine List.map_congr_left fun v hv => ?_
    obtain ⟨c, _, rfl⟩ := List.mem_map.mp (h.mem_iff.mp hv)
    rfl
  · have := h.map fun y => (cps y).headD 0
    rw [List.map_map] at this
    have e : cs.map ((fun y => (cps y).headD 0) ∘ one1) = cs := by
      conv => rhs; rw [← List.map_id cs]
      rfl
    rw [e] at this
    exact this
theorem flat_ones : ∀ cs : List Nat, ((cs.map one1).map cps).flatten = cs
  | [] => rfl
  | c :: cs => by
    rw [List.map_cons, List.map_cons, List.flatten_cons, flat_ones cs]
    rfl
theorem len_ones (cs : List Nat) : ((cs.map one1).map (·.length)).sum = cs.length := by
  induction cs with
  | nil => rfl
  | cons c cs ih =>
    rw [List.map_cons, List.map_cons, List.sum_cons, ih, List.length_cons]
    show 1 + _ = _
    omega
theorem map_S1 (l : List Nat) : l.map S1 = (l.map one1).map V.str := by rw [List.map_map]; rfl
theorem cutV_to (xs : List V) (n : Int) (h : 0 ≤ n) : cutV xs none (some n) = xs.take n.toNat := by
  unfold cutV
  have e : n = ((n.toNat : Nat) : Int) := (Int.toNat_of_nonneg h).symm
  rw [e, HT.sIx_nat, HT.sIx_none, List.drop_zero, Nat.sub_zero]
  rw [show (((n.toNat : Nat) : Int)).toNat = n.toNat by omega]
  by_cases c : n.toNat ≤ xs.length
  · rw [Nat.min_eq_left c]
  · rw [Nat.min_eq_right (by omega), List.take_of_length_le (Nat.le_refl _), List.take_of_length_le (by omega)]
theorem cutV_from (xs : List V) (n : Int) (h : 0 ≤ n) : cutV xs (some n) none = xs.drop n.toNat := by
  unfold cutV
  have e : n = ((n.toNat : Nat) : Int) := (Int.toNat_of_nonneg h).symm
  rw [e, HT.sIx_nat, HT.sIx_none]
  rw [show (((n.toNat : Nat) : Int)).toNat = n.toNat by omega]
  by_cases c : n.toNat ≤ xs.length
  · rw [Nat.min_eq_left c, List.take_of_length_le (by rw [List.length_drop]; omega)]
  · rw [Nat.min_eq_right (by omega), List.drop_of_length_le (Nat.le_refl _), List.drop_of_length_le (by omega)]
    simp
section
variable {P : Program} {w : World} {K : PySem.W.Frag} {mg : Str → Option Value} {base : Heap}
end
/-! ### tuples never change -/
def Tle (H H' : Hp) : Prop := ∀ b xs, H b = some (.tup xs) → H' b = some (.tup xs)
theorem Tle.refl (H : Hp) : Tle H H := fun _ _ h => h
theorem Tle.trans {H H1 H2 : Hp} (x : Tle H H1) (y : Tle H1 H2) : Tle H H2 := fun b xs h => y b xs (x b xs h)
theorem Tle.new {H : Hp} {p : Addr} {o : HO} (hp : H p = none) : Tle H (upd H p o) := fun b xs h => by rw [upd_ne (ne_of_none h hp)]; exact h
theorem Tle.lst {H : Hp} {p : Addr} {ys : List V} {o : HO} (hp : H p = some (.lst ys)) : Tle H (upd H p o) := fun b xs h => by
  rw [upd_ne (ne_of h hp (by intro z; cases z))]; exact h
theorem Stp.tle {a : Addr} {H H' : Hp} (st : Stp a H H') (hp : Pot H a) : Tle H H' := fun b xs h => by
  obtain ⟨p0, p1, p2, e, _⟩ := hp.ex
  exact st.get h (ne_of h e (by intro z; cases z))
theorem Tle.of_same {H H' : Hp} (e : Same H H') : Tle H H' := fun b xs h => e b _ h
/-- a pair of texts; the sources or sinks of streams -/
def PairAt (H : Hp) (t : Addr) (p : Str × Str) : Prop := H t = some (.tup [.str p.1, .str p.2])
def PartsT (H : Hp) (t : Addr) (ps : List (Str × Str)) : Prop := ∃ as : List Addr, H t = some (.tup (as.map V.ref)) ∧ Paired (PairAt H) as ps
theorem pairs_le {H H' : Hp} (e : Tle H H') {as : List Addr} {ps : List (Str × Str)} (h : Paired (PairAt H) as ps) : Paired (PairAt H') as ps := L2.Paired.mapP h fun _ _ q => e _ _ q
theorem PartsT.le {H H' : Hp} {t : Addr} {ps : List (Str × Str)} (e : Tle H H') (h : PartsT H t ps) : PartsT H' t ps := by
  obtain ⟨as, h1, h2⟩ := h
  exact ⟨as, e _ _ h1, pairs_le e h2⟩
theorem paired_snoc {α β : Type} {F : α → β → Prop} : ∀ {l : List α} {m : List β} {x : α} {y : β}, Paired F l m → F x y → Paired F (l ++ [x]) (m ++ [y])
  | _, _, _, _, .nil, h => .cons h .nil
  | _, _, _, _, .cons r t, h => .cons r (paired_snoc t h)
theorem paired_take {α β : Type} {F : α → β → Prop} : ∀ {l : List α} {m : List β} (n : Nat), Paired F l m → Paired F (l.take n) (m.take n)
  | _, _, 0, _ => .nil
  | _, _, _ + 1, .nil => .nil
  | _, _, n + 1, .cons r t => .cons r (paired_take n t)
theorem paired_drop {α β : Type} {F : α → β → Prop} : ∀ {l : List α} {m : List β} (n : Nat), Paired F l m → Paired F (l.drop n) (m.drop n)
  | _, _, 0, h => h
  | _, _, _ + 1, .nil => .nil
  | _, _, n + 1, .cons r t => paired_drop n t
theorem paired_len {α β : Type} {F : α → β → Prop} : ∀ {l : List α} {m : List β}, Paired F l m → l.length = m.length
  | _, _, .nil => rfl
  | _, _, .cons _ t => congrArg (· + 1) (paired_len t)
def rIntB : List V → Hp → VK → Prop := fun xs H Q => ∃ k, xs = [.bl k] ∧ Q (.int (if k then 1 else 0)) H
theorem call_intB {X : Cx} : CallR X (.type "int") rIntB := CallR.imp call_int1 fun xs H Q h => .inr h
section
variable {P : Program} {w : World} {K : PySem.W.Frag} {mg : Str → Option Value} {base : Heap}
end
end Fs
namespace Fs
open PySem PySem.Spec PyProof.Rows L2 SlX RZ
/-! ### for a, b in zip(text, text) -/
def ItzS (x y : Str) : It :=
  ⟨fun i _ => i < x.cps.size ∧ i < y.cps.size, fun i H v H' => ∃ T c d, v = .ref T ∧ H T = none ∧ H' = upd H T (.tup [S1 c, S1 d]) ∧ x.cps[i]? = some c ∧ y.cps[i]? = some d,
    fun i _ => i ≤ x.cps.size ∧ i ≤ y.cps.size ∧ (i = x.cps.size ∨ i = y.cps.size)⟩
theorem turn_zipS {P : Program} {w : World} {K : PySem.W.Frag} {elts : List Expr} {kk : Nat} {tpos : Pos} {x y : Str} {t u : Tok} {z TI TO i1 i2 : Addr} (S : ZipSep2 z TI TO i1 i2 [i1] [i2]) :
    Turn P w K (.Tuple elts kk tpos) (ItzS x y) [z, TI, TO, i1, i2] z
      (fun i h => IsZip h z TI TO .none ∧ IsTupOf2 h TI (.ref i1) (.ref i2) ∧ (∃ a b, IsTupOf2 h TO a b) ∧ h.IsStrIter i1 (strIterType x) x t i ∧ h.IsStrIter i2 (strIterType y) y u i) := by
  constructor
  case mem => simp
  case obj =>
    rintro i h ⟨h1, h2, ⟨a, b, h3⟩, ⟨o1, e1, _, d1⟩, ⟨o2, e2, _, d2⟩⟩ c hc
    simp only [List.mem_cons, List.not_mem_nil, or_false] at hc
    rcases hc with rfl | rfl | rfl | rfl | rfl
    · exact ⟨_, h1, fun v q => by cases q⟩
    · exact ⟨_, h2, fun v q => by cases q⟩
    · exact ⟨_, h3, fun v q => by cases q⟩
    · exact ⟨_, e1, fun v q => by rw [d1] at q; cases q⟩
    · exact ⟨_, e2, fun v q => by rw [d2] at q; cases q⟩
  case keep =>
    rintro i h h' ⟨h1, h2, ⟨a, b, h3⟩, ⟨o1, e1, r1⟩, ⟨o2, e2, r2⟩⟩ k
    exact ⟨k z (by simp) _ h1, k TI (by simp) _ h2, ⟨a, b, k TO (by simp) _ h3⟩, ⟨o1, k i1 (by simp) _ e1, r1⟩, ⟨o2, k i2 (by simp) _ e2, r2⟩⟩
  case item =>
    rintro X rfl rfl rfl hc i pins s σ H E I hf ⟨h1, h2, ⟨a, b, h3⟩, h4, h5⟩ ⟨hx, hy⟩
    have hh := I.ok.hd hc
    refine wpAny_pyNext_zipD2_item S (.text (A := X.A.in1) hh i1 x t) (.text (A := X.A.in1) hh i2 y u) h1 h2 h3 h4 h5 hx hy ?_
    rintro x1 x2 h' tk ⟨c, t1, hc1, rfl⟩ ⟨d, t2, hd1, rfl⟩ z1 g3 g4 g5 gT gsz kp
    refine ⟨_, rfl, wpAny_letOwnedTupleGo_zip (s := { s with heap := h', toks := tk }) z1 fun h'' z2 sb => ?_⟩
    have lz : z < s.heap.objs.size := Heap.lt_size h1
    have gT2 : h''.get? s.heap.objs.size = some { cls := .type "tuple", data := .seq #[.str ⟨#[c]⟩ t1, .str ⟨#[d]⟩ t2] } := (sb.2 _ (Nat.ne_of_gt lz)).trans gT
    have new : ObjOk X.prog X.w (upd H s.heap.objs.size (.tup [S1 c, S1 d])) h'' s.heap.objs.size (.tup [S1 c, S1 d]) :=
      ⟨by show 2 ≤ sizeLine; decide, [_, _], .cons ⟨t1, rfl⟩ (.cons ⟨t2, rfl⟩ .nil), ⟨_, gT2, rfl, _, rfl⟩⟩
    have I2 : Inv X pins σ (upd H s.heap.objs.size (.tup [S1 c, S1 d])) { s with heap := h'', toks := tk } := by
      refine I.turnedNew (ch := [z, TI, TO, i1, i2]) (fun b o hb q => ?_) hf (Nat.le_refl _) new
      simp only [List.mem_cons, List.not_mem_nil, or_false, not_or] at hb
      exact (sb.2 b hb.1).trans (kp b o hb.1 hb.2.2.1 hb.2.2.2.1 hb.2.2.2.2 q)
    have n1 : i1 ≠ z := fun e => S.zf1 (by rw [← e]; exact S.mem1)
    have n2 : i2 ≠ z := fun e => S.zf2 (by rw [← e]; exact S.mem2)
    refine ⟨.ref s.heap.objs.size, _, I2, rfl, ⟨_, c, d, rfl, I.hok.fresh (Nat.le_refl _), rfl, hc1, hd1⟩, ⟨z2, ?_, ⟨.str ⟨#[c]⟩ t1, .str ⟨#[d]⟩ t2, ?_⟩, ?_, ?_⟩, fun b hb => ?_⟩
    · have m1 : TI ≠ TO := S.TITO
      exact (sb.2 _ S.TIz).trans (kp _ _ S.TIz m1 S.TIi1 S.TIi2 h2)
    · exact (sb.2 _ S.TOz).trans g3
    · obtain ⟨o, e, r⟩ := g4
      exact ⟨o, (sb.2 _ n1).trans e, r⟩
    · obtain ⟨o, e, r⟩ := g5
      exact ⟨o, (sb.2 _ n2).trans e, r⟩
    · have hlt : b < s.heap.objs.size := by
        simp only [List.mem_cons, List.not_mem_nil, or_false] at hb
        rcases hb with rfl | rfl | rfl | rfl | rfl
        · exact lz
        · exact Heap.lt_size h2
        · exact Heap.lt_size h3
        · obtain ⟨_, e, _⟩ := h4; exact Heap.lt_size e
        · obtain ⟨_, e, _⟩ := h5; exact Heap.lt_size e
      rw [upd_ne (Nat.ne_of_lt hlt)]
      exact (hf b hb).1
  case done =>
    rintro X rfl rfl rfl hc i pins s σ H E I hf ⟨h1, h2, ⟨a, b, h3⟩, h4, h5⟩ ⟨l1, l2, l3⟩
    have hh := I.ok.hd hc
    refine wpAny_pyNext_zipD2_end S (.text (A := X.A.in1) hh i1 x t) (.text (A := X.A.in1) hh i2 y u) h1 h2 h3 h4 h5 l1 l2 l3 fun h' tk kp => ⟨rfl, ?_⟩
    refine I.turnedL (ch := [z, TI, TO, i1, i2]) (fun b o hb q => ?_) hf
    simp only [List.mem_cons, List.not_mem_nil, or_false, not_or] at hb
    exact kp b o hb.1 hb.2.2.1 hb.2.2.2.1 hb.2.2.2.2 q
  case self =>
    rintro A i s Q E ⟨h1, _⟩ q
    exact wpAny_pyIter_zip h1 q
def iZipS (ta : TA) : TI := fun σ H R => ta σ H fun vs H1 => ∃ x y : Str, vs = [.str x, .str y] ∧ R (ItzS x y) H1
theorem pi_zipS {X : Cx} {e e2 : Expr} {ta : TA} {p pos tpos : Pos} {elts : List Expr} {kk : Nat} (hm : X.mg "zip" = none) (ha : PA X [e, e2] ta) (hg : Gl X "zip" := by rfl)
    (hs : starEach [e, e2] X.env = (false, eval e X.env) :: starEach [e2] X.env := by rfl) (hpl : (backTo pos (starEach [e2] X.env)).any (·.1) = false := by rfl) :
    PI X (.Tuple elts kk tpos) (.Call (.Name "zip" p) [e, e2] [] pos) (iZipS ta) := by
  constructor
  intro pins s σ H R I h
  refine Call_ (ld_blt I hg hm PyProof.Rows.boot_zip (PyProof.Rows.callWith_type1 (thn (ha.run pos pins s σ H _ I h) ?_) hs hpl))
  rintro us s1 ⟨vs, H1, I1, rel, x, y, rfl, q⟩
  obtain ⟨u1, u2, rfl, ⟨t, rfl⟩, ⟨u, rfl⟩⟩ := vals2 rel
  refine zip_begins2 (begins_text x t) (begins_text y u) trivial trivial fun h' z1 z2 z3 z4 z5 zs kp => wpAny_pyIter_zip z1 ?_
  have I2 : Inv X pins σ H1 { s1 with heap := h' } := I1.kept (t' := s1.toks) kp
  refine ⟨s1.heap.objs.size + 4, [s1.heap.objs.size + 4, s1.heap.objs.size + 2, s1.heap.objs.size + 3, s1.heap.objs.size, s1.heap.objs.size + 1], _, _, H1, rfl, I2,
    turn_zipS (x := x) (y := y) (t := t) (u := u) (zip_sep2 (fp1 := []) (fp2 := []) (fun _ c => nomatch c) (fun _ c => nomatch c)), ⟨z1, z2, ⟨_, _, z3⟩, ⟨_, z4, rfl, rfl⟩, ⟨_, z5, rfl, rfl⟩⟩, fun b hb => ?_, q⟩
  have hle : s1.heap.objs.size ≤ b := by
    simp only [List.mem_cons, List.not_mem_nil, or_false] at hb
    rcases hb with rfl | rfl | rfl | rfl | rfl
    · exact Nat.le_add_right _ _
    · exact Nat.le_add_right _ _
    · exact Nat.le_add_right _ _
    · exact Nat.le_refl _
    · exact Nat.le_add_right _ _
  exact I1.fpOk hle (I1.hok.fresh hle)
theorem walk_zipS {x y : Str} {n : Nat} (hn : n = min x.cps.size y.cps.size) : Walk (ItzS x y) n (fun _ => True) (fun i H v H' => ∃ T c d, v = .ref T ∧ H T = none ∧ H' = upd H T (.tup [S1 c, S1 d]) ∧ x.cps[i]? = some c ∧ y.cps[i]? = some d) := by
  subst hn
  refine ⟨fun i _ hi _ => ?_, fun _ _ => ?_, fun _ _ _ _ _ _ h => h⟩
  · exact ⟨by omega, by omega⟩
  · exact ⟨by omega, by omega, by omega⟩
end Fs
namespace Fs
open PySem PySem.Spec PyProof.Rows L2 SlX RZ
/-! ### set(list of texts), and how many there are -/
def ddS (acc : List Str) (x : Str) : List Str := if x ∈ acc then acc else acc ++ [x]
def distinct (xs : List Str) : List Str := xs.foldl ddS []
theorem dd_mem {acc : List Str} {x y : Str} : y ∈ ddS acc x ↔ y ∈ acc ∨ y = x := by
  unfold ddS
  by_cases h : x ∈ acc
  · rw [if_pos h]
    exact ⟨.inl, fun q => q.elim id fun e => e ▸ h⟩
  · rw [if_neg h, List.mem_append, List.mem_singleton]
theorem dd_nodup {acc : List Str} {x : Str} (h : acc.Nodup) : (ddS acc x).Nodup := by
  unfold ddS
  by_cases c : x ∈ acc
  · rw [if_pos c]; exact h
  · rw [if_neg c, List.nodup_append]
    exact ⟨h, by simp, fun u hu v hv e => c (by rw [← List.mem_singleton.mp hv, ← e]; exact hu)⟩
theorem dd_len (acc : List Str) (x : Str) : (ddS acc x).length ≤ acc.length + 1 := by
  unfold ddS
  split
  · omega
  · rw [List.length_append, List.length_singleton]
    exact Nat.le_refl _
theorem distinct_snoc (xs : List Str) (x : Str) : distinct (xs ++ [x]) = ddS (distinct xs) x := by
  unfold distinct
  rw [List.foldl_append]; rfl
theorem distinct_len (xs : List Str) : (distinct xs).length ≤ xs.length := by
  have : ∀ (ys acc : List Str), (ys.foldl ddS acc).length ≤ acc.length + ys.length := by
    intro ys
    induction ys with
    | nil => intro acc; exact Nat.le_refl _
    | cons y ys ih =>
      intro acc
      have h1 := ih (ddS acc y)
      have h2 := dd_len acc y
      rw [List.foldl_cons, List.length_cons]
      omega
  have := this xs []
  rw [List.length_nil, Nat.zero_add] at this
  exact this
theorem distinct_full : ∀ (ys acc : List Str), acc.Nodup → ((ys.foldl ddS acc).length = acc.length + ys.length ↔ (acc ++ ys).Nodup)
  | [], acc, h => by simp [h]
  | y :: ys, acc, h => by
    rw [List.foldl_cons]
    have ih := distinct_full ys (ddS acc y) (dd_nodup h)
    by_cases c : y ∈ acc
    · have hy : ddS acc y = acc := if_pos c
      rw [hy] at ih ⊢
      constructor
      · intro e
        have hle : (ys.foldl ddS acc).length ≤ acc.length + ys.length := by
          have : ∀ (zs a : List Str), (zs.foldl ddS a).length ≤ a.length + zs.length := by
            intro zs
            induction zs with
            | nil => intro a; exact Nat.le_refl _
            | cons z zs ih2 =>
              intro a
              have h1 := ih2 (ddS a z)
              have h2 := dd_len a z
              rw [List.foldl_cons, List.length_cons]
              omega
          exact this ys acc
        rw [List.length_cons] at e
        omega
      · intro nd
        rw [List.nodup_append] at nd
        exact (nd.2.2 y c y (List.mem_cons_self ..) rfl).elim
    · have hy : ddS acc y = acc ++ [y] := if_neg c
      rw [hy] at ih ⊢
      rw [List.length_append, List.length_singleton, List.append_assoc] at ih
      rw [List.length_cons]
      rw [show acc.length + (ys.length + 1) = acc.length + 1 + ys.length by omega]
      exact ih
theorem distinct_iff (xs : List Str) : (distinct xs).length = xs.length ↔ xs.Nodup := by
  have h := distinct_full xs [] List.nodup_nil
  rw [List.length_nil, Nat.zero_add, List.nil_append] at h
  exact h
def inS (xs : List Str) : Str → Bool := fun y => decide (y ∈ xs)
section
variable {prog : Program} {w : World} {A : Around} {R : Result → Shared → Prop} {I : Addr} {fp wr : List Addr} {G : Array GenState → Array GenState → Prop} {n : Nat} {P : Nat → Value → Prop} {St : Nat → Shared → Prop}
theorem fill_set (W : WalksS prog w A.in1 I fp wr G n P St) (a : Addr) (off : a ∉ fp) (xs : List Str) (len : xs.length = n) (small : n + 1 < scanBound) (val : ∀ i v, P i v → ∃ t, v = .str (xs.getD i Str.empty) t) :
    ∀ (more i : Nat) (s : Shared), n - i = more → i ≤ n → St i s → s.heap.SetOf (strKind prog w) a (inS (distinct (xs.take i))) (distinct (xs.take i)).length →
      (∀ s', Moved (a :: wr) G s s' → s'.heap.SetOf (strKind prog w) a (inS (distinct xs)) (distinct xs).length → R (.ok (.ret .none)) s') → codeAny (model prog w) A (.builtin "set.update.loop" ⟨[.ref a, .ref I], []⟩) R s := by
  have off2 : a ∉ wr := fun c => off (W.sub _ c)
  have sub2 : ∀ b ∈ wr, b ∈ a :: wr := fun b c => List.mem_cons_of_mem _ c
  intro more
  induction more with
  | zero =>
    intro i s e1 e2 st set fin
    obtain rfl : i = n := by omega
    apply codeAny_builtin PyProof.Rows.F.entry_set_update_loop
    rw [Around.under_plainId PyProof.Rows.F.plain_set_update_loop _]
    refine wpAny_bind (W.done s _ _ st ?_)
    intro s' mv
    refine wpAny_pure (fin s' (mv.mono sub2) ?_)
    rw [← len, List.take_length] at set
    obtain ⟨o, es, ep, tb, g, r⟩ := set
    exact ⟨o, es, ep, tb, mv.heap a _ off2 g, r⟩
  | succ more ih =>
    intro i s e1 e2 st set fin
    have lt : i < n := by omega
    apply codeAny_builtin PyProof.Rows.F.entry_set_update_loop
    rw [Around.under_plainId PyProof.Rows.F.plain_set_update_loop _]
    refine wpAny_bind (W.item i s _ _ lt st ?_)
    intro v s' pv st' mv
    rcases val i v pv with ⟨t, rfl⟩
    have hx : xs[i]? = some (xs.getD i Str.empty) := by rw [List.getD_eq_getElem?_getD, List.getElem?_eq_getElem (by omega)]; rfl
    generalize xs.getD i Str.empty = x at hx
    have set' : s'.heap.SetOf (strKind prog w) a (inS (distinct (xs.take i))) (distinct (xs.take i)).length := by
      obtain ⟨o, es, ep, tb, g, r⟩ := set
      exact ⟨o, es, ep, tb, mv.heap a _ off2 g, r⟩
    have room : (distinct (xs.take i)).length + 1 < scanBound := by
      have c1 := distinct_len (xs.take i)
      rw [List.length_take] at c1
      omega
    have et : xs.take (i + 1) = xs.take i ++ [x] := by rw [List.take_add_one, hx]; rfl
    refine wpAny_bind (wpAny_holding ?_)
    unfold setAdd
    refine wpAny_holding (wpAny_bind ((strKind prog w).pyHash (k := x) (strKind_is _ _ _ _) ?_))
    refine wpAny_setAddHashed_of (knd := strKind prog w) (s := { s' with toks := s'.toks + 1 }) (strKind_is _ _ _ _) rfl set' room ?_
    intro h' same set2
    have set3 : h'.SetOf (strKind prog w) a (inS (distinct (xs.take (i + 1)))) (distinct (xs.take (i + 1))).length := by
      rw [et, distinct_snoc]
      refine PyProof.Rows.SetOf_congr set2 (fun k => ?_) ?_
      · unfold inS
        by_cases c1 : k ∈ distinct (xs.take i)
        · simp [c1, dd_mem]
        · by_cases c2 : k = x
          · simp [c1, c2, dd_mem]
          · simp [c1, c2, dd_mem]
      · unfold inS ddS
        by_cases c : x ∈ distinct (xs.take i)
        · simp [c]
        · simp [c]
    refine wpAny_pure ⟨plainId_quiet PyProof.Rows.F.plain_set_update_loop _, ih (i + 1) _ (by omega) lt (W.frame _ s' _ _ st' (Nat.le_succ _) ?_) set3 ?_⟩
    · intro b hb o g
      rw [same.2 b (fun e => off (e ▸ hb))]; exact g
    · intro s2 mv2 set4
      refine fin s2 (Moved.trans W.gtrans ((mv.mono sub2).then_heap (Nat.le_succ _) ?_) mv2) set4
      intro b o hb g
      rw [same.2 b (fun e => hb (by rw [e]; exact List.mem_cons_self ..))]; exact g
end
abbrev bare (led : Bool) : Obj := { cls := .type "set", dict := none, data := .set #[] 0 (.fresh 0 0 led) }
section
variable {prog : Program} {w : World} {A : Around} {E : Value → Shared → Prop} {s : Shared}
theorem make_set {l : Addr} {its : Array Value} {xs : List Str} {Q : Value → Shared → Prop} (hh : A.handled = none) (isl : s.heap.IsList l its) (isx : StrsAre its.toList xs) (small : xs.length + 1 < scanBound)
    (fin : ∀ (h' : Heap) (tk : Nat), h'.SetOf (strKind prog w) s.heap.objs.size (inS (distinct xs)) (distinct xs).length → (∀ b o, b < s.heap.objs.size → s.heap.get? b = some o → h'.get? b = some o) → Q (.ref s.heap.objs.size) { s with heap := h', toks := tk }) :
    wpAny (model prog w) A (call (.type "set") [.ref l]) Q E s := by
  obtain ⟨c, tl, mro⟩ := PySem.F.called_set.mro
  have m1 := PySem.F.called_set.made
  have m2 := PySem.F.called_set.sub
  apply wpAny_call
  apply codeAny_of_tree
  show wpAny _ _ (callAny (.type "set") _) _ _ _
  refine wpAny_pure (And.intro (Code.quiet_builtin _ (by decide +kernel)) (codeAny_builtin PySem.F.entry_type_call ?_))
  rw [Around.under_plain (weight_type_call_type "set" [.ref l] []) rfl]
  have m3 := PySem.F.called_set.notType
  have m4 := PySem.F.called_set.canCreate
  have m5 := PySem.F.typeCall_set_1 (.ref l)
  repeat (any_goals (first | assumption | wp_step))
  refine codeAny_mono (code_set_new_1 (.ref l) (E := E) (Q₁ := fun v s1 => ∃ led : Bool, v = .ref s.heap.objs.size ∧ s1 = { s with heap := s.heap.push (bare led) }) fun led => ⟨led, rfl, rfl⟩) ?_
  rintro (err | fl) s1 got
  · exact got
  cases fl
  case next => exact got.elim
  case brk => exact got.elim
  case cont => exact got.elim
  case ret v =>
  obtain ⟨led, rfl, rfl⟩ := got
  have at0 : (s.heap.push (bare led)).get? s.heap.objs.size = some (bare led) := Heap.get?_push_size _ rfl
  have ty0 : Shared.TypeIs { s with heap := s.heap.push (bare led) } (.ref s.heap.objs.size) "set" := ⟨_, at0, rfl⟩
  have b1 := PySem.F.called_set.init.lookup
  have b2 := PySem.F.called_set.init.bind (.ref s.heap.objs.size)
  repeat (any_goals (first | assumption | wp_step))
  refine codeAny_mono (codeAny_call_builtin (R := wants (fun r s2 => r = .none ∧ ∃ h' tk, s2 = { s with heap := h', toks := tk } ∧ h'.SetOf (strKind prog w) s.heap.objs.size (inS (distinct xs)) (distinct xs).length ∧
    (∀ b o, b < s.heap.objs.size → s.heap.get? b = some o → h'.get? b = some o)) E) PySem.F.called_set.init.plain PySem.F.entry_set_init (check_set_init_1 ty0 ?_)) ?_
  · obtain ⟨⟨oc, od, dt, sl⟩, g, e1, nl, e2⟩ := isl
    simp only at e1 e2
    subst e1 e2
    have g2 : (s.heap.push (bare led)).get? l = some { cls := .type "list", dict := od, data := .seq its nl, slots := sl } := Heap.get?_push_of_some _ g
    have u1 := PySem.F.sub_list_set
    have u2 := PySem.F.sub_list_frozenset
    have u3 : (Value.type "list" == Value.type "dict") = false := by decide
    have isl2 : (s.heap.push (bare led)).IsList l its := ⟨_, g2, rfl, nl, rfl⟩
    unfold Builtin.«set.__init__» noKeywords Builtin.Frozenset.updateFrom
    generalize e3 : pyIter = PI
    wp_walk
    subst e3
    refine wpAny_pyIter_list isl2 (wpAny_bind (wpAny_runValue ?_))
    have ltl : l < s.heap.objs.size := Heap.lt_size g
    have hh3 : A.in1.in1.in1.handled = none := by simp [hh]
    have sz1 : (s.heap.push (bare led)).objs.size = s.heap.objs.size + 1 := Heap.size_push ..
    have ne1 : l ≠ (s.heap.push (bare led)).objs.size := by rw [sz1]; exact Nat.ne_of_lt (Nat.lt_succ_of_lt ltl)
    have ne2 : s.heap.objs.size ∉ [(s.heap.push (bare led)).objs.size, l] := by
      rw [sz1]
      intro q
      simp only [List.mem_cons, List.not_mem_nil, or_false] at q
      rcases q with q | q
      · exact absurd q (Nat.ne_of_lt (Nat.lt_succ_self _))
      · exact absurd q (Nat.ne_of_gt ltl)
    have len : xs.length = its.size := by rw [← StrsAre.len_eq isx, Array.length_toList]
    have val : ∀ (i : Nat) (v : Value), its[i]? = some v → ∃ t, v = .str (xs.getD i Str.empty) t := by
      intro i v hv
      exact SS.strs_at isx i v (by rw [Array.getElem?_toList]; exact hv)
    refine fill_set ((Walks.list hh3 _ l ne1 its).toS) s.heap.objs.size ne2 xs len (by rw [← len]; exact small) val (its.size - 0) 0 _ (by omega) (Nat.zero_le _) ⟨⟨_, Heap.get?_push_size _ rfl, rfl, rfl⟩, (isl2.push _)⟩ ?_ ?_
    · have at1 : ((s.heap.push (bare led)).push { cls := .type "list_iterator", data := .fields #[.ref l, .int 0 0] }).get? s.heap.objs.size = some (bare led) := Heap.get?_push_of_some _ at0
      refine PyProof.Rows.SetOf_congr ((PyProof.Rows.setObjOf_fresh (knd := strKind prog w) led).setOf at1 (by unfold scanBound; omega)) (fun k => ?_) rfl
      exact (decide_eq_false (fun c => by cases c)).symm
    · rintro ⟨h', g', d', tk', os'⟩ mv set
      cases (show g' = s.gens from mv.gens)
      cases (show d' = s.drawn from mv.drawn)
      cases (show os' = s.os from mv.os)
      show wpAny _ _ _ _ _ _
      apply wpAny_pure
      show wpAny _ _ (ret Value.none) _ _ _
      refine wpAny_pure ⟨rfl, h', tk', rfl, set, ?_⟩
      intro b o hb g3
      refine mv.heap b o ?_ (Heap.get?_push_of_some _ (Heap.get?_push_of_some _ g3))
      intro q
      simp only [List.mem_cons, List.not_mem_nil, or_false] at q
      rcases q with q | q
      · exact absurd q (Nat.ne_of_lt hb)
      · rw [sz1] at q
        exact absurd q (Nat.ne_of_lt (Nat.lt_succ_of_lt hb))
  · rintro (err | fl) s2 got2
    · exact got2
    cases fl
    case next => exact got2.elim
    case brk => exact got2.elim
    case cont => exact got2.elim
    case ret v2 =>
    obtain ⟨rfl, h', tk, rfl, set, kp⟩ := got2
    repeat (any_goals (first | assumption | wp_step))
    exact fin _ _ set kp
end
end Fs
namespace Fs
open PySem PySem.Spec PyProof.Rows L2 SlX RZ
theorem strs_vals : ∀ {ys : List Str} {us : List Value}, Vals (ys.map V.str) us → StrsAre us ys
  | [], [], _ => .nil
  | y :: ys, _ :: us, .cons r t => by
    obtain ⟨k, e⟩ := r
    subst e
    exact .cons y k (strs_vals t)
/-- len(set(xs)), xs a list of texts -/
def tLenSetS (K : PySem.W.Frag) (ta : TE) : TE := fun σ H Q => ta σ H fun x H1 => ∃ (l : Addr) (xs : List Str), x = .ref l ∧ SqL K H1 l (xs.map V.str) ∧ xs.length ≤ 1000 ∧ Q (.int ((distinct xs).length : Nat)) H1
theorem pe_lenSetS {X : Cx} {a : Expr} {ta : TE} {p p2 q pos : Pos} (hm : X.mg "len" = none) (hm2 : X.mg "set" = none) (ha : PE X a ta) (hg : Gl X "len" := by rfl) (hg2 : Gl X "set" := by rfl) (hc : X.calm = true := by rfl)
    (na : starEach [a] X.env = (false, eval a X.env) :: starEach [] X.env := by rfl) : PE X (.Call (.Name "len" p) [.Call (.Name "set" p2) [a] [] q] [] pos) (tLenSetS X.K ta) := by
  constructor
  intro pins s σ H Q I want
  refine Call_ (ld_blt I hg hm PySem.boot_len (PyProof.Rows.callWith_builtin1 (PyProof.Rows.args_cons ?_ rfl) rfl rfl))
  refine Call_ (ld_blt I hg2 hm2 boot_set (PyProof.Rows.callWith_type1 (PyProof.Rows.args_cons (thn (ha.run pins s σ H _ I want) ?_) na) na rfl))
  rintro v s1 ⟨x, H1, I1, r1, l, xs, rfl, sq, sz, want1⟩
  cases r1
  refine PyProof.Rows.args_nil ?_
  obtain ⟨its, rel, pl, _⟩ := I1.list sq
  refine make_set (I1.ok.hd hc) pl.isList (by simpa using strs_vals rel) (by unfold scanBound; omega) fun h' tk set kp => PyProof.Rows.args_nil ?_
  obtain ⟨o, es, ep, t, g, ex, d, _, _, _, fits, cnt⟩ := set
  have I2 : Inv X pins σ H1 { s1 with heap := h', toks := tk } := I1.kept fun b o g2 => kp b o (Heap.lt_size g2) g2
  have dl := distinct_len xs
  exact call_len_set g ex d fits (by rw [cnt]; omega) ⟨.int _, H1, I2.tok _, ⟨_, by rw [cnt]⟩, want1⟩
end Fs
namespace Fs
open PySem PySem.Spec PyProof.Rows L2 SlX RZ
/-! ### data: what repr shows, what isinstance tells -/
structure TOk (x : Str) : Prop where
  len : x.length ≤ 9000
  cod : ∀ c ∈ cps x, c < 16 ^ 8
mutual
inductive Dx (H : Hp) : V → PyData → Prop
  | non : Dx H .non .none
  | bl (b : Bool) : Dx H (.bl b) (.bool b)
  | int (i : Int) (h1 : i.natAbs.log2 < 1920) (h2 : ((PyData.int i).shown).length ≤ 100) : Dx H (.int i) (.int i)
  | str (x : Str) (h : TOk x) : Dx H (.str x) (.str x)
  | lst {a : Addr} {xs : List V} {ds : List PyData} : H a = some (.lst xs) → a ≠ sysModules → DxAll H xs ds → Dx H (.ref a) (.list ds)
  | tup {a : Addr} {xs : List V} {ds : List PyData} : H a = some (.tup xs) → DxAll H xs ds → Dx H (.ref a) (.tuple ds)
  | dct {a : Addr} {kvs : List (Key × V)} {ds : List (PyData × PyData)} : H a = some (.dK kvs) → DxKv H kvs ds → Dx H (.ref a) (.dict ds)
inductive DxAll (H : Hp) : List V → List PyData → Prop
  | nil : DxAll H [] []
  | cons {v : V} {vs : List V} {d : PyData} {ds : List PyData} : Dx H v d → DxAll H vs ds → DxAll H (v :: vs) (d :: ds)
inductive DxKv (H : Hp) : List (Key × V) → List (PyData × PyData) → Prop
  | nil : DxKv H [] []
  | cons {x : Str} {v : V} {d : PyData} {kvs : List (Key × V)} {ds : List (PyData × PyData)} : TOk x → Dx H v d → DxKv H kvs ds → DxKv H ((.inr x, v) :: kvs) ((.str x, d) :: ds)
end
mutual
theorem Dx.le {H H' : Hp} (e : Same H H') : ∀ {v : V} {d : PyData}, Dx H v d → Dx H' v d
  | _, _, .non => .non
  | _, _, .bl b => .bl b
  | _, _, .int i h1 h2 => .int i h1 h2
  | _, _, .str x h => .str x h
  | _, _, .lst h n a => .lst (e _ _ h) n (DxAll.le e a)
  | _, _, .tup h a => .tup (e _ _ h) (DxAll.le e a)
  | _, _, .dct h a => .dct (e _ _ h) (DxKv.le e a)
theorem DxAll.le {H H' : Hp} (e : Same H H') : ∀ {vs : List V} {ds : List PyData}, DxAll H vs ds → DxAll H' vs ds
  | _, _, .nil => .nil
  | _, _, .cons h t => .cons (Dx.le e h) (DxAll.le e t)
theorem DxKv.le {H H' : Hp} (e : Same H H') : ∀ {vs : List (Key × V)} {ds : List (PyData × PyData)}, DxKv H vs ds → DxKv H' vs ds
  | _, _, .nil => .nil
  | _, _, .cons k h t => .cons k (Dx.le e h) (DxKv.le e t)
end
/-- a dict's entries, two lists of data -/
theorem DxKv.split {H : Hp} : ∀ {vs : List (Key × V)} {ds : List (PyData × PyData)}, DxKv H vs ds → DxAll H (vs.map fun p => kV p.1) (ds.map (·.1)) ∧ DxAll H (vs.map (·.2)) (ds.map (·.2))
  | _, _, .nil => ⟨.nil, .nil⟩
  | _, _, .cons k h t => ⟨.cons (.str _ k) (DxKv.split t).1, .cons h (DxKv.split t).2⟩
theorem ents {P : Program} {w : World} : ∀ {kvs : List (Key × V)} {vs : List (Key × Value)} {es : List DictEntry}, KV kvs vs → PySem.Pairs (mixKind P w) es vs → Vals (kvs.map fun p => kV p.1) (es.map (·.key)) ∧ Vals (kvs.map (·.2)) (es.map (·.val))
  | _, _, _, .nil, .nil => ⟨.nil, .nil⟩
  | (k, v) :: _, (k', u) :: _, e :: _, .cons ⟨h1, h2⟩ t, .cons g1 g2 gt => by
    obtain ⟨i1, i2⟩ := ents t gt
    have h1 : k = k' := h1
    subst h1
    have g2 : e.val = u := g2
    have h2 : RelV v u := h2
    refine ⟨.cons (show RelV (kV k) e.key from ?_) i1, .cons (show RelV v e.val by rw [g2]; exact h2) i2⟩
    rcases keyIs_shape (show keyIs k e.key = true from g1) with ⟨i, t, ek, ev⟩ | ⟨x, t, ek, ev⟩
    · rw [ek, ev]; exact ⟨t, rfl⟩
    · rw [ek, ev]; exact ⟨t, rfl⟩
theorem pairs_len {P : Program} {w : World} : ∀ {vs : List (Key × Value)} {es : List DictEntry}, PySem.Pairs (mixKind P w) es vs → True := fun _ => trivial
section
variable {X : Cx} {pins : List (Addr × Obj)} {σ : L2.St} {H : Hp} {s : Shared}
mutual
theorem Dx.reads (I : Inv X pins σ H s) : ∀ (d : PyData) (v : V) (u : Value), Dx H v d → RelV v u → ∃ as, Reads s.heap u d as ∧ sysModules ∉ as
  | .none, _, _, h, r => by
    cases h
    cases r
    exact ⟨_, Reads.none, by simp⟩
  | .bool b, _, _, h, r => by
    cases h
    cases r
    exact ⟨_, Reads.bool b, by simp⟩
  | .int i, _, _, h, r => by
    cases h
    obtain ⟨t, rfl⟩ := r
    exact ⟨_, Reads.int i t, by simp⟩
  | .str x, _, _, h, r => by
    cases h
    obtain ⟨t, rfl⟩ := r
    exact ⟨_, Reads.str x t, by simp⟩
  | .list ds, _, _, h, r => by
    cases h with
    | lst hs hn ha =>
      cases r
      obtain ⟨_, its, n, rv, e⟩ := I.hok _ _ hs
      obtain ⟨as, hr, hno⟩ := Dx.readsAll I ds _ its ha rv
      exact ⟨_, Reads.list e rfl rfl (by simpa using hr), by simp [hno, Ne.symm hn]⟩
  | .tuple ds, _, _, h, r => by
    cases h with
    | tup hs ha =>
      cases r
      obtain ⟨_, its, rv, o, ho, hc, n, hd⟩ := I.hok _ _ hs
      obtain ⟨as, hr, hno⟩ := Dx.readsAll I ds _ its ha rv
      exact ⟨_, Reads.tuple ho hc hd (by simpa using hr), hno⟩
  | .dict ds, _, _, h, r => by
    cases h with
    | dct hs ha =>
      cases r
      obtain ⟨_, hsys, vs, kv, o, es, ep, ho, ex, hd, _, prs, _⟩ := I.hok _ _ hs
      obtain ⟨k1, k2⟩ := ents kv prs
      have hn := beq_eq_false_iff_ne.mp hsys
      obtain ⟨as, h1, n1⟩ := Dx.readsK I ds _ (es.toList.map (·.key)) ha k1
      obtain ⟨bs, h2, n2⟩ := Dx.readsV I ds _ (es.toList.map (·.val)) ha k2
      exact ⟨_, Reads.dict ho ex.1 hd h1 h2, by simp [n1, n2, Ne.symm hn]⟩
theorem Dx.readsAll (I : Inv X pins σ H s) : ∀ (ds : List PyData) (vs : List V) (us : List Value), DxAll H vs ds → Vals vs us → ∃ as, ReadsAll s.heap us ds as ∧ sysModules ∉ as
  | [], _, _, h, r => by
    cases h
    cases r
    exact ⟨_, ReadsAll.nil, by simp⟩
  | d :: ds, _, _, h, r => by
    cases h with
    | cons h1 h2 =>
      cases r with
      | cons r1 r2 =>
        obtain ⟨as, q1, n1⟩ := Dx.reads I d _ _ h1 r1
        obtain ⟨bs, q2, n2⟩ := Dx.readsAll I ds _ _ h2 r2
        exact ⟨_, ReadsAll.cons q1 q2, by simp [n1, n2]⟩
theorem Dx.readsK (I : Inv X pins σ H s) : ∀ (ds : List (PyData × PyData)) (vs : List (Key × V)) (us : List Value), DxKv H vs ds → Vals (vs.map fun p => kV p.1) us → ∃ as, ReadsAll s.heap us (ds.map (·.1)) as ∧ sysModules ∉ as
  | [], _, _, h, r => by
    cases h
    cases r
    exact ⟨_, ReadsAll.nil, by simp⟩
  | (_, d) :: ds, _, _, h, r => by
    cases h with
    | cons h0 h1 h2 =>
      cases r with
      | cons r1 r2 =>
        obtain ⟨t, rfl⟩ := r1
        obtain ⟨bs, q2, n2⟩ := Dx.readsK I ds _ _ h2 r2
        exact ⟨_, ReadsAll.cons (Reads.str _ t) q2, by simp [n2]⟩
theorem Dx.readsV (I : Inv X pins σ H s) : ∀ (ds : List (PyData × PyData)) (vs : List (Key × V)) (us : List Value), DxKv H vs ds → Vals (vs.map (·.2)) us → ∃ as, ReadsAll s.heap us (ds.map (·.2)) as ∧ sysModules ∉ as
  | [], _, _, h, r => by
    cases h
    cases r
    exact ⟨_, ReadsAll.nil, by simp⟩
  | (_, d) :: ds, _, _, h, r => by
    cases h with
    | cons h0 h1 h2 =>
      cases r with
      | cons r1 r2 =>
        obtain ⟨as, q1, n1⟩ := Dx.reads I d _ _ h1 r1
        obtain ⟨bs, q2, n2⟩ := Dx.readsV I ds _ _ h2 r2
        exact ⟨_, ReadsAll.cons q1 q2, by simp [n1, n2]⟩
end
end
mutual
theorem Dx.short {H : Hp} : ∀ {v : V} {d : PyData}, Dx H v d → d.leavesShort 100 = true ∧ d.showable = true
  | _, _, .non => ⟨rfl, rfl⟩
  | _, _, .bl b => ⟨rfl, rfl⟩
  | _, _, .int i h1 h2 => ⟨by simpa only [PyData.leavesShort, decide_eq_true_eq] using h2, by simpa only [PyData.showable, decide_eq_true_eq] using h1⟩
  | _, _, .str x h => ⟨by simpa only [PyData.leavesShort, List.all_eq_true, decide_eq_true_eq] using h.cod, rfl⟩
  | _, _, .lst h n a => by
    obtain ⟨i1, i2⟩ := DxAll.short a
    exact ⟨by simpa only [PyData.leavesShort] using i1, by simpa only [PyData.showable] using i2⟩
  | _, _, .tup h a => by
    obtain ⟨i1, i2⟩ := DxAll.short a
    exact ⟨by simpa only [PyData.leavesShort] using i1, by simpa only [PyData.showable] using i2⟩
  | _, _, .dct h a => by
    obtain ⟨i1, i2⟩ := DxKv.short a
    exact ⟨by simpa only [PyData.leavesShort] using i1, by simpa only [PyData.showable] using i2⟩
theorem DxAll.short {H : Hp} : ∀ {vs : List V} {ds : List PyData}, DxAll H vs ds → PyData.leavesShortAll 100 ds = true ∧ PyData.showableAll ds = true
  | _, _, .nil => ⟨rfl, rfl⟩
  | _, _, .cons h t => by
    obtain ⟨i1, i2⟩ := Dx.short h
    obtain ⟨j1, j2⟩ := DxAll.short t
    exact ⟨by simp only [PyData.leavesShortAll, i1, j1, Bool.and_self], by simp only [PyData.showableAll, i2, j2, Bool.and_self]⟩
theorem DxKv.short {H : Hp} : ∀ {vs : List (Key × V)} {ds : List (PyData × PyData)}, DxKv H vs ds → PyData.leavesShortKv 100 ds = true ∧ PyData.showableKv ds = true
  | _, _, .nil => ⟨rfl, rfl⟩
  | _, _, .cons (x := x) k h t => by
    obtain ⟨i1, i2⟩ := Dx.short h
    obtain ⟨j1, j2⟩ := DxKv.short t
    have k1 : PyData.leavesShort 100 (.str x) = true := by simpa only [PyData.leavesShort, List.all_eq_true, decide_eq_true_eq] using k.cod
    exact ⟨by simp only [PyData.leavesShortKv, k1, i1, j1, Bool.and_self], by simp only [PyData.showableKv, PyData.showable, i2, j2, Bool.and_self]⟩
end
/-- small data -/
structure Fit (n m : Nat) (d : PyData) : Prop where
  we : d.weight ≤ n
  de : d.depth ≤ m
section
variable {X : Cx} {k : Nat}
/-- repr of data in a list, a tuple, a dict -/
def rReprD : List V → Hp → VK → Prop := fun xs H Q => ∃ (a : Addr) (d : PyData), xs = [.ref a] ∧ Dx H (.ref a) d ∧ Fit 100000 30 d ∧ Q (.str d.shown) H
theorem call_reprD (hr : Rm k X.A) : CallR X (.builtin "repr") rReprD := by
  intro pins s σ H xs us Q I rel h
  obtain ⟨a, d, rfl, hd, ft, q⟩ := h
  obtain ⟨u, rfl, rx⟩ := vals1 rel
  cases rx
  obtain ⟨as, r, hno⟩ := Dx.reads I d _ _ hd rfl
  obtain ⟨h1, h2⟩ := hd.short
  have h3 := PyData.shown_le 100 (by decide) d h1
  have h4 := ft.we
  have h5 := ft.de
  have h6 := hr.rm.units
  exact repr_of_reads' r h2 (fun _ => hno) hr.gd (by omega) (fun _ _ e => e) (fun h' u tk hk => ⟨.str d.shown, H, I.kept hk, ⟨u, rfl⟩, q⟩) (by rw [sizeLine_eq]; omega)
/-- [e, ..], a list that is none of the module table -/
def tLstN (t : TA) : TE := fun σ H Q => t σ H fun xs H1 => xs.length ≤ sizeLine ∧ ∀ p, H1 p = none → p ≠ sysModules → Q (.ref p) (upd H1 p (.lst xs))
theorem pe_lstN {es : List Expr} {t : TA} {pos : Pos} (h : PA X es t) : PE X (.List es pos) (tLstN t) := by
  refine ⟨fun pins s σ H Q I hq => ?_⟩
  refine wpAny_List_spliced (thn (h.run pos pins s σ H _ I hq) fun us s1 ⟨xs, H1, I1, r, z, q⟩ => ⟨by rw [← r.length]; exact z, ?_⟩)
  have hf : H1 s1.heap.objs.size = none := I1.hok.fresh (Nat.le_refl _)
  refine ⟨.ref s1.heap.objs.size, upd H1 s1.heap.objs.size (.lst xs), I1.laid (t' := s1.toks) (fun b u e => Heap.get?_push_of_some _ e) (Nat.le_refl _) ?_, rfl, q _ hf (Nat.ne_of_gt I1.big)⟩
  exact ⟨z, us, 0, r, Heap.get?_push_size _ rfl⟩
end
end Fs
namespace Fs
open PySem PySem.Spec PyProof.Rows L2 SlX RZ
def qInS : R2 := fun x y H Q => ∃ (c : Nat) (z : Str), x = .str ⟨#[c]⟩ ∧ y = .str z ∧ Q (.bl (decide (c ∈ z.cps.toList))) H
def qLtS : R2 := fun x y H Q => ∃ i j, x = .str i ∧ y = .str j ∧ Q (.bl (decide (i.cps.toList < j.cps.toList))) H
def qFind : V → List V → Hp → VK → Prop := fun x xs H Q => ∃ a b, x = .str a ∧ xs = [.str b] ∧ Q (.int (Txt.find a b)) H
/-! ### what is a name, signs, a part, streams -/
def isStrD : PyData → Bool
  | .str _ => true
  | _ => false
def isTupD : PyData → Bool
  | .tuple _ => true
  | _ => false
def isNameD : PyData → Bool
  | .str x => nameL (cps x)
  | _ => false
def isSignsD : PyData → Bool
  | .str x => signsL (cps x)
  | _ => false
def isPartD : PyData → Bool
  | .tuple [a, b] => isNameD a && isSignsD b
  | _ => false
def arePartsD (least : Nat) : PyData → Bool
  | .tuple ds => decide (least ≤ ds.length) && decide (ds.length ≤ 3) && ds.all isPartD
  | _ => false
def nameOf : PyData → Str
  | .tuple (.str x :: _) => x
  | _ => ""
def namesD : PyData → List Str
  | .tuple ds => ds.map nameOf
  | _ => []
def areStreamsD (a b : PyData) : Bool := arePartsD 1 a && arePartsD 0 b && decide ((namesD a ++ namesD b).Nodup)
/-- a judge of one value -/
def spIs (f : PyData → Bool) : Sp := fun vs H Q _ => ∃ (v : V) (d : PyData), vs = [v] ∧ Dx H v d ∧ ∀ H', Same H H' → Q (.bl (f d)) H'
section
variable {K : PySem.W.Frag} {H : Hp} {v : V} {d : PyData} {Q : VK}
theorem tyx_of (h : Dx H v d) : ∃ n : String, TyX K H v (.type n) ∧ kitB n "str" = some (isStrD d) ∧ kitB n "tuple" = some (isTupD d) := by
  cases h with
  | non => exact ⟨"NoneType", .base .non, (by decide +kernel : kitB "NoneType" "str" = some false), (by decide +kernel : kitB "NoneType" "tuple" = some false)⟩
  | bl b => exact ⟨"bool", .base (.bl b), (by decide +kernel : kitB "bool" "str" = some false), (by decide +kernel : kitB "bool" "tuple" = some false)⟩
  | int i _ _ => exact ⟨"int", .base (.int i), (by decide +kernel : kitB "int" "str" = some false), (by decide +kernel : kitB "int" "tuple" = some false)⟩
  | str x _ => exact ⟨"str", .base (.str x), (by decide +kernel : kitB "str" "str" = some true), (by decide +kernel : kitB "str" "tuple" = some false)⟩
  | lst e _ _ => exact ⟨"list", .base (.lst e), (by decide +kernel : kitB "list" "str" = some false), (by decide +kernel : kitB "list" "tuple" = some false)⟩
  | tup e _ => exact ⟨"tuple", .base (.tup e), (by decide +kernel : kitB "tuple" "str" = some false), (by decide +kernel : kitB "tuple" "tuple" = some true)⟩
  | dct e _ => exact ⟨"dict", .base (.dK e), (by decide +kernel : kitB "dict" "str" = some false), (by decide +kernel : kitB "dict" "tuple" = some false)⟩
end
def LET : Str := "abcdefghijklmnopqrstuvwxyz"
theorem in_let (c : Nat) : decide (c ∈ cps LET) = (decide (97 ≤ c) && decide (c ≤ 122)) := by
  by_cases h : c < 128
  · have : ∀ c : Nat, c < 128 → decide (c ∈ cps LET) = (decide (97 ≤ c) && decide (c ≤ 122)) := by decide +kernel
    exact this c h
  · have h1 : ¬ c ≤ 122 := by omega
    have h2 : ∀ x ∈ cps LET, x ≤ 122 := by decide +kernel
    rw [decide_eq_false h1, decide_eq_false (fun m => h1 (h2 c m)), Bool.and_false]
theorem all_let (l : List Nat) : (l.map fun c => decide (c ∈ cps LET)).all id = lowL l := by
  rw [List.all_map]
  unfold lowL
  congr 1
  funext c
  exact in_let c
section
variable {X : Cx} {x : Str} {pos : Pos}
theorem pe_gstr {z : Str} (h : ∃ t, X.mg x = some (.str z t)) (hg : Gl X x := by rfl) (hd : (x == ("__debug__" : Str)) = false := by decide) : PE X (.Name x pos) (tC (.str z)) := by
  obtain ⟨t, h⟩ := h
  exact pe_glob hg h ⟨t, rfl⟩ hd
theorem pe_gint {z : Int} (h : ∃ t, X.mg x = some (.int z t)) (hg : Gl X x := by rfl) (hd : (x == ("__debug__" : Str)) = false := by decide) : PE X (.Name x pos) (tC (.int z)) := by
  obtain ⟨t, h⟩ := h
  exact pe_glob hg h ⟨t, rfl⟩ hd
end
section
variable {P : Program} {w : World} {K : PySem.W.Frag} {mg : Str → Option Value} {base : Heap}
theorem take_snoc {α : Type} {l : List α} {i : Nat} {x : α} (h : l[i]? = some x) : l.take (i + 1) = l.take i ++ [x] := by rw [List.take_add_one, h]; rfl
end
end Fs
namespace Fs
open PySem PySem.Spec PyProof.Rows L2 SlX RZ
/-! ### small texts of low codes -/
structure Lo (n : Nat) (y : Str) : Prop where
  len : y.length ≤ n
  cod : ∀ c ∈ cps y, c < 128
theorem pow16 : (16 : Nat) ^ 8 = 4294967296 := by decide
theorem Lo.tok {n : Nat} {y : Str} (h : Lo n y) (hn : n ≤ 9000) : TOk y := by
  refine ⟨?_, fun c hc => ?_⟩
  · have := h.len
    omega
  · have := h.cod c hc
    rw [pow16]
    omega
theorem cps_add (x y : Str) : cps (x ++ y) = cps x ++ cps y := by
  show (x.cps ++ y.cps).toList = _
  rw [Array.toList_append]
theorem Lo.add {n m : Nat} {x y : Str} (h : Lo n x) (g : Lo m y) : Lo (n + m) (x ++ y) := by
  refine ⟨?_, fun c hc => ?_⟩
  · have h1 := h.len
    have h2 := g.len
    rw [len_cps] at h1 h2 ⊢
    rw [cps_add, List.length_append]; omega
  · rw [cps_add] at hc
    exact (List.mem_append.mp hc).elim (h.cod c) (g.cod c)
theorem Lo.cut {n : Nat} {z : Str} (h : Lo n z) (a b : Option Int) : Lo n (cutS z a b) := by
  refine ⟨Nat.le_trans (cutS_length z a b) h.len, fun c hc => h.cod c ?_⟩
  have hc : c ∈ (((z.cps.toList.drop (HT.sIx z.length 0 a)).take (HT.sIx z.length z.length b - HT.sIx z.length 0 a)).toArray).toList := hc
  simp only [] at hc
  exact List.mem_of_mem_drop (List.mem_of_mem_take hc)
theorem Lo.sub {n : Nat} {y z : Str} (h : Lo n z) (l : y.length ≤ z.length) (c : ∀ c ∈ cps y, c ∈ cps z) : Lo n y := ⟨Nat.le_trans l h.len, fun d hd => h.cod d (c d hd)⟩
theorem Lo.upper {n : Nat} {z : Str} (h : Lo n z) : Lo n (Txt.upper z) := by
  have e := SX.upper_S (a := cps z) (List.all_eq_true.mpr fun c hc => decide_eq_true (h.cod c hc))
  rw [SX.S_tl] at e
  rw [e]
  refine ⟨?_, fun c hc => ?_⟩
  · have := h.len
    rw [len_cps] at this ⊢
    rw [cps_S, List.length_map]; exact this
  · rw [cps_S] at hc
    obtain ⟨d, hd, rfl⟩ := List.mem_map.mp hc
    have h1 := h.cod d hd
    have : ∀ d : Nat, d < 128 → PyProof.Rows.up1 d < 128 := by decide +kernel
    exact this d h1
theorem foldl_rep (a : Array Nat) : ∀ (n : Nat) (b : Array Nat) (c : Nat), c ∈ ((List.replicate n a).foldl (· ++ ·) b).toList → c ∈ b.toList ∨ c ∈ a.toList
  | 0, b, c, h => .inl h
  | n + 1, b, c, h => by
    have h : c ∈ ((List.replicate n a).foldl (· ++ ·) (b ++ a)).toList := h
    rcases foldl_rep a n (b ++ a) c h with h | h
    · rw [Array.toList_append] at h
      exact List.mem_append.mp h
    · exact .inr h
theorem Lo.mul {n m : Nat} {z : Str} {k : Int} (h : Lo n z) (hk : k ≤ (m : Int)) : Lo (n * m) (Txt.mul z k) := by
  refine ⟨len_mul_leN h.len hk, fun c hc => h.cod c ?_⟩
  unfold Txt.mul at hc
  split at hc
  · cases hc
  · split at hc
    · exact hc
    · rcases foldl_rep z.cps _ _ c hc with h | h
      · cases h
      · exact h
def rMulS : R2 := fun x y H Q => ∃ z n, x = .str z ∧ y = .int n ∧ z.length ≤ 100 ∧ 0 ≤ n ∧ n ≤ 10000 ∧ Q (.str (Txt.mul z n)) H
def tRevS (te : TE) : TE := fun σ H Q => te σ H fun x H1 => ∃ z, x = .str z ∧ z.length ≤ 100000 ∧ ∀ z' : Str, z'.length ≤ z.length → (∀ c ∈ cps z', c ∈ cps z) → Q (.str z') H1
section
variable {X : Cx}
theorem op_mulS : OpR X (binaryOp .Mult) rMulS := by
  intro pins s σ H x y v u Q I rx ry h
  obtain ⟨z, n, rfl, rfl, hz, h0, hn, q⟩ := h
  obtain ⟨t, rfl⟩ := rx
  obtain ⟨t', rfl⟩ := ry
  exact SB.mul (mulOk_of 100 10000 hz (by omega) (by omega) (by decide) (by decide)) fun t' k => ⟨.str _, H, I.tok _, ⟨_, rfl⟩, q⟩
theorem pe_revS {e : Expr} {te : TE} {k : Nat} {p1 p2 p3 pos : Pos} (he : PE X e te) : PE X (.Subscript e (.Slice none none (some (.UnaryOp .USub (.Constant (.int 1) k p1) p2)) p3) pos) (tRevS te) := by
  refine ⟨fun pins s σ H Q I h => ?_⟩
  refine Subscript_ (thn (he.run pins s σ H _ I h) fun v s1 ⟨x, H1, I1, r1, q1⟩ => ?_)
  obtain ⟨z, ex, hz, q⟩ := q1
  subst ex
  obtain ⟨t, rfl⟩ := r1
  have hst : PO X (some (.UnaryOp .USub (.Constant (.int 1) k p1) p2)) (tPart (tUn (rU fun i => .int (-i)) (tC (.int 1)))) := po_some (pe_un un_neg pe_int)
  refine wpAny_Slice (thn (po_none.run pins s1 σ H1 (fun o H2 => o = none ∧ H2 = H1) I1 ⟨rfl, rfl⟩) fun vl s2 ⟨l, H2, I2, pl, el, e2⟩ => ?_)
  subst el e2
  refine thn (po_none.run pins s2 σ H2 (fun o H3 => o = none ∧ H3 = H2) I2 ⟨rfl, rfl⟩) fun vu s3 ⟨u, H3, I3, pu, eu, e3⟩ => ?_
  subst eu e3
  refine thn (hst.run pins s3 σ H3 (fun o H4 => o = some (-1) ∧ H4 = H3) I3 ⟨1, rfl, -1, rfl, rfl, rfl⟩) fun vs s4 ⟨o, H4, I4, ps, eo, e4⟩ => ?_
  subst eo e4
  have I5 : Inv X pins σ H4 { s4 with heap := s4.heap.push { cls := .type "slice", data := .fields #[vl, vu, vs] } } := I4.kept (t' := s4.toks) fun b ob q => Heap.get?_push_of_some _ q
  clear hst
  cases pl
  cases pu
  cases ps with
  | int _ ts =>
    show wpAny (model X.prog X.w) X.A (subscriptTail e (.Slice none none (some (.UnaryOp .USub (.Constant (.int 1) k p1) p2)) p3) (.str z t) (.ref s4.heap.objs.size)) (EP X pins σ Q) X.xe { s4 with heap := s4.heap.push { cls := .type "slice", data := .fields #[.none, .none, .int (-1) ts] } }
    refine tail_any (ops := [.ref s4.heap.objs.size, .str z t]) (typeIs_str _ _ _) PySem.F.slot_str_getitem.lookup ?_ (by with_unfolding_all rfl)
    refine wpAny_getItem_str_slice (l := none) (u := none) (st := some (-1, ts)) ⟨_, Heap.get?_push_size _ rfl, rfl, rfl⟩ rfl ?_
    have e1 : slicePicked z none none (some (-1, ts)) = (List.range z.length).map fun k => z.length - 1 - k := PySem.W.krv_sliceRange z.length
    have e2 : sliceMade z t none none (some (-1, ts)) = .str ⟨((slicePicked z none none (some (-1, ts))).filterMap (z.cps[·]?)).toArray⟩ := rfl
    rw [e2, e1]
    have hl : (((List.range z.length).map fun k => z.length - 1 - k).filterMap (z.cps[·]?)).length ≤ z.length := by
      refine Nat.le_trans (List.length_filterMap_le ..) ?_
      rw [List.length_map, List.length_range]; exact Nat.le_refl _
    have hl2 : (⟨(((List.range z.length).map fun k => z.length - 1 - k).filterMap (z.cps[·]?)).toArray⟩ : Str).length ≤ z.length := by
      rw [len_cps]; exact hl
    refine ⟨Nat.le_trans hl2 (by rw [sizeLine_eq]; omega), .str _, H4, I5.tok _, ⟨_, rfl⟩, q _ hl2 fun c hc => ?_⟩
    have hc : c ∈ ((List.range z.length).map fun k => z.length - 1 - k).filterMap (z.cps[·]?) := by simpa using hc
    obtain ⟨i, _, hi⟩ := List.mem_filterMap.mp hc
    rw [← Array.getElem?_toList] at hi
    exact List.mem_of_getElem? hi
end
/-! ### small lists of data -/
structure FitA (n m : Nat) (ds : List PyData) : Prop where
  we : PyData.weightAll ds ≤ n
  de : PyData.depthAll ds ≤ m
theorem FitA.nil {n m : Nat} : FitA n m [] := ⟨by simp only [PyData.weightAll]; omega, by simp only [PyData.depthAll]; omega⟩
theorem FitA.cons {n k m : Nat} {d : PyData} {ds : List PyData} (h : Fit n m d) (g : FitA k m ds) : FitA (n + 1 + k) m (d :: ds) := by
  have h1 := h.we
  have h2 := h.de
  have g1 := g.we
  have g2 := g.de
  exact ⟨by simp only [PyData.weightAll]; omega, by simp only [PyData.depthAll]; omega⟩
theorem FitA.head {n m : Nat} {d : PyData} {ds : List PyData} (h : FitA n m (d :: ds)) : d.weight + 1 + PyData.weightAll ds ≤ n ∧ d.depth ≤ m ∧ PyData.depthAll ds ≤ m := by
  have h1 := h.we
  have h2 := h.de
  simp only [PyData.weightAll, PyData.depthAll] at h1 h2
  omega
theorem FitA.append {n k m : Nat} : ∀ {ds es : List PyData}, FitA n m ds → FitA k m es → FitA (n + k) m (ds ++ es)
  | [], es, _, g => ⟨by have := g.we; show PyData.weightAll es ≤ _; omega, g.de⟩
  | d :: ds, es, h, g => by
    obtain ⟨h1, h2, h3⟩ := h.head
    have i := FitA.append (n := n - (d.weight + 1)) (ds := ds) ⟨by omega, h3⟩ g
    have i1 := i.we
    have i2 := i.de
    rw [List.cons_append]
    exact ⟨by simp only [PyData.weightAll]; omega, by simp only [PyData.depthAll]; omega⟩
theorem FitA.take {n m : Nat} : ∀ {ds : List PyData} (i : Nat), FitA n m ds → FitA n m (ds.take i)
  | _, 0, _ => by rw [List.take_zero]; exact .nil
  | [], _ + 1, _ => by rw [List.take_nil]; exact .nil
  | d :: ds, i + 1, h => by
    obtain ⟨h1, h2, h3⟩ := h.head
    have j := FitA.take (n := n - (d.weight + 1)) (ds := ds) i ⟨by omega, h3⟩
    have i1 := j.we
    have i2 := j.de
    rw [List.take_succ_cons]
    exact ⟨by simp only [PyData.weightAll]; omega, by simp only [PyData.depthAll]; omega⟩
theorem FitA.drop {n m : Nat} : ∀ {ds : List PyData} (i : Nat), FitA n m ds → FitA n m (ds.drop i)
  | _, 0, h => h
  | [], _ + 1, _ => by rw [List.drop_nil]; exact .nil
  | d :: ds, i + 1, h => by
    obtain ⟨h1, h2, h3⟩ := h.head
    rw [List.drop_succ_cons]
    exact FitA.drop i ⟨by omega, h3⟩
theorem FitA.tup {n m : Nat} {ds : List PyData} (h : FitA n m ds) : Fit n (m + 1) (.tuple ds) := ⟨by have := h.we; simp only [PyData.weight]; omega, by have := h.de; simp only [PyData.depth]; omega⟩
theorem FitA.lst {n m : Nat} {ds : List PyData} (h : FitA n m ds) : Fit n (m + 1) (.list ds) := ⟨by have := h.we; simp only [PyData.weight]; omega, by have := h.de; simp only [PyData.depth]; omega⟩
theorem Fit.le {n m n' m' : Nat} {d : PyData} (h : Fit n m d) (hn : n ≤ n' := by omega) (hm : m ≤ m' := by omega) : Fit n' m' d := ⟨Nat.le_trans h.we hn, Nat.le_trans h.de hm⟩
theorem FitA.le {n m n' m' : Nat} {d : List PyData} (h : FitA n m d) (hn : n ≤ n' := by omega) (hm : m ≤ m' := by omega) : FitA n' m' d := ⟨Nat.le_trans h.we hn, Nat.le_trans h.de hm⟩
theorem fit_str {x : Str} {n m : Nat} (h : x.length ≤ n) : Fit n m (.str x) := ⟨by simp only [PyData.weight]; exact h, by simp only [PyData.depth]; omega⟩
theorem fit_non {n m : Nat} : Fit n m .none := ⟨by simp only [PyData.weight]; omega, by simp only [PyData.depth]; omega⟩
theorem fit_zero {n m : Nat} : Fit n m (.int 0) := ⟨by simp [PyData.weight], by simp only [PyData.depth]; omega⟩
theorem lo_name {x : Str} (h : nameL (cps x) = true) : Lo 8 x := by
  unfold nameL at h
  simp only [Bool.and_eq_true, decide_eq_true_eq] at h
  refine ⟨by rw [len_cps]; omega, fun c hc => ?_⟩
  have := List.all_eq_true.mp h.1.2 c hc
  simp only [Bool.and_eq_true, decide_eq_true_eq] at this
  omega
theorem lo_signs {x : Str} (h : signsL (cps x) = true) : Lo 8 x := by
  unfold signsL at h
  simp only [Bool.and_eq_true, decide_eq_true_eq] at h
  refine ⟨by rw [len_cps]; omega, fun c hc => ?_⟩
  have := List.all_eq_true.mp h.1.2 c hc
  simp only [Bool.and_eq_true, decide_eq_true_eq] at this
  omega
theorem DxAll.take {H : Hp} : ∀ {vs : List V} {ds : List PyData} (i : Nat), DxAll H vs ds → DxAll H (vs.take i) (ds.take i)
  | _, _, 0, _ => by rw [List.take_zero, List.take_zero]; exact .nil
  | _, _, _ + 1, .nil => .nil
  | _, _, i + 1, .cons h t => .cons h (DxAll.take i t)
theorem DxAll.drop {H : Hp} : ∀ {vs : List V} {ds : List PyData} (i : Nat), DxAll H vs ds → DxAll H (vs.drop i) (ds.drop i)
  | _, _, 0, h => h
  | _, _, _ + 1, .nil => .nil
  | _, _, i + 1, .cons h t => DxAll.drop i t
/-! ### rules -/
def rEqX : R2 := fun x y H Q => ∃ d e, Dx H x d ∧ Dx H y e ∧ SeqAt.shaped d = true ∧ SeqAt.shaped e = true ∧ Q (.bl (PyData.eqv d e)) H
def rList3N (K : PySem.W.Frag) : List V → Hp → VK → Prop := fun xs H Q => ∃ x l, xs = [x] ∧ Of3 K H x l ∧ ∀ p, H p = none → p ≠ sysModules → Q (.ref p) (upd H p (.lst l))
section
variable {X : Cx}
theorem op_eqX (hu : X.A.units + 64 < cLine) : OpR X (compareOp .Eq) rEqX := by
  intro pins s σ H x y v u Q I rx ry h
  obtain ⟨d, e, hd, he, sd, se, q⟩ := h
  obtain ⟨as, r1, _⟩ := Dx.reads I d x v hd rx
  obtain ⟨bs, r2, _⟩ := Dx.reads I e y u he ry
  exact SeqAt.compareEq_shaped r1 r2 sd se hu ⟨.bl _, H, I, rfl, q⟩
theorem call_list3N (hc : X.calm = true) : CallR X (.type "list") (rList3N X.K) := by
  intro pins s σ H xs us Q I rel h
  obtain ⟨x, l, ex, h3, q⟩ := h
  subst ex
  obtain ⟨u, eu, rx⟩ := vals1 rel
  subst eu
  have fin : ∀ (its : List Value), Vals l its → l.length ≤ sizeLine → ∀ (h' : Heap) (tk c' : Nat), (∀ b o', s.heap.get? b = some o' → h'.get? b = some o') →
      h'.get? s.heap.objs.size = some { cls := .type "list", dict := none, data := .seq its.toArray c', slots := #[] } → EP X pins σ Q (.ref s.heap.objs.size) { s with heap := h', toks := tk } := fun its r' hz h' tk c' kp e =>
    ⟨.ref s.heap.objs.size, _, I.laid (t' := tk) kp (Nat.le_refl _) (show ObjOk X.prog X.w _ h' _ (.lst l) from ⟨hz, its, c', r', e⟩), rfl, q _ (I.hok.fresh (Nat.le_refl _)) (Nat.ne_of_gt I.big)⟩
  rcases h3 with ⟨p, ep, hq | hq⟩ | ⟨z, ez, hz, el⟩
  · subst ep
    cases rx
    obtain ⟨its, r', pl, hz⟩ := I.list hq
    have hlen := r'.length
    obtain ⟨o, ho, hc, n, hd⟩ := pl.isList
    exact call_list_seq p (.inl rfl) ho hc hd (fun h' c' kp e => fin its r' hz h' s.toks c' kp e) (by simp only [List.size_toArray] <;> omega)
  · subst ep
    cases rx
    obtain ⟨its, r', pl, hz⟩ := I.tuple hq
    have hlen := r'.length
    obtain ⟨o, ho, hc, n, hd⟩ := pl
    exact call_list_seq p (.inr rfl) ho hc hd (fun h' c' kp e => fin its r' hz h' s.toks c' kp e) (by simp only [List.size_toArray] <;> omega)
  · subst ez el
    obtain ⟨t, et⟩ := rx
    subst et
    have hz' : z.cps.size ≤ sizeLine := Nat.le_trans hz (by decide)
    refine call_list_str (I.ok.hd hc) z t (fun h' tk acc c kp at_ of_ => ?_) hz'
    refine fin acc.toList ?_ (by rw [List.length_map, Array.length_toList]; exact hz') h' tk c kp (by simpa using at_)
    refine vals_of_at (by rw [List.length_map, Array.length_toList, Array.length_toList]; exact of_.1.symm) fun j x w h1 h2 => ?_
    rw [Array.getElem?_toList] at h2
    obtain ⟨c', t', hc', ew⟩ := of_.2 j w h2
    subst ew
    rw [List.getElem?_map, Array.getElem?_toList, hc'] at h1
    cases h1
    exact ⟨t', rfl⟩
end
/-- a slice of a tuple: itself or a new one -/
theorem sl_get {K : PySem.W.Frag} {H : Hp} {a : Addr} {xs : List V} {lo hi : Option Int} {Q : VK} (ha : H a = some (.tup xs)) (q : ∀ (t : Addr) (H' : Hp), Same H H' → H' t = some (.tup (cutV xs lo hi)) → Q (.ref t) H') : rSlA K (.ref a) lo hi H Q := by
  refine ⟨a, xs, rfl, SqT.of ha, fun e => ?_, fun _ p hp => q p _ (same_upd (Same.refl H) hp) upd_same⟩
  refine q a H (Same.refl H) ?_
  unfold cutV
  rw [e.1, e.2, List.drop_zero, Nat.sub_zero, List.take_of_length_le (Nat.le_refl _)]
  exact ha
/-- a new object -/
theorem nw {a p : Addr} {H : Hp} {o : HO} (hp : Pot H a) (h : H p = none) : Stp a H (upd H p o) ∧ upd H p o p = some o ∧ p ≠ a ∧ Same H (upd H p o) := ⟨(Stp.refl hp).new h, upd_same, hp.ne h, same_upd (Same.refl H) h⟩
end Fs
namespace Fs
open PySem PySem.Spec PyProof.Rows L2 SlX RZ
/-! ### defs of a class with slots, called by the operators and by name -/
structure Mth (P : Program) (w : World) (K : PySem.W.Frag) (mg : Str → Option Value) (base : Heap) (CX : CXT) (C : Addr) (m : Str) (k : Nat) (sp : Sp) : Prop where
  ex : ∃ (g : Addr) (fd : FuncData) (ps : List Str), PySem.W.findIn K (.ref C) m = some (some (.ref g)) ∧ PySem.W.isFn K (.ref g) = true ∧ PySem.W.keepIn K (.ref g) = true ∧ Binds K fd ps [] ∧ FnG P w K mg base CX k g fd ps sp
theorem passAt0 {X : Cx} {σ : L2.St} {E : XK} : PassesAt CX0 X σ E := fun _ _ _ _ _ _ z => z.elim
section
variable {X : Cx} {CX : CXT} {k j : Nat} {g C : Addr} {fd : FuncData} {ps : List Str} {sp : Sp} {m : Str}
theorem run_gA {A : Around} {pins : List (Addr × Obj)} {σ : L2.St} {H : Hp} {s : Shared} {Q : VK} {E : XK} {us : List Value} {vs : List V} (F : FnG X.prog X.w X.K X.mg X.base CX k g fd ps sp) (room : Room k A) (gd : A.guards = some []) (e0 : Env0 X.prog X.w X.K X.mg X.base A X.stack s H)
    (b : Binds X.K fd ps []) (hx : PassesAt CX X σ E) (I : Inv X pins σ H s) (r : Vals vs us) (h : sp vs H Q E) : wpAny (model X.prog X.w) A (call (.ref g) us) (EP X pins σ Q) X.xe s := by
  have hl : (us ++ ([] : List Value)).length = ps.length := by rw [List.append_nil, ← r.length]; exact F.lens _ _ _ _ h
  have b1 := b s us I.kIn hl
  rw [List.append_nil] at b1
  refine wpAny_call (codeAny_mono (F.goes A X.stack s H ⟨us, []⟩ us vs Q E room gd e0 b1 r h) fun r s' hq => ?_)
  match r, hq with
  | .error err, hq => exact hx pins H s err s' I hq
  | .ok (.ret u), hq => exact I.after hq
  | .ok .next, hq => exact hq.elim
  | .ok .brk, hq => exact hq.elim
  | .ok .cont, hq => exact hq.elim
/-- x in o -/
def rInM (C : Addr) (sp : Sp) (neg : Bool) : R2 := fun x y H Q => ∃ (a dx : Addr) (vs : List (Option V)), y = .ref a ∧ Slt H a C dx vs ∧ sp [y, x] H (fun v H' => ∃ b, v = .bl b ∧ Q (.bl (if neg then !b else b)) H') E0
theorem op_inM (M : Mth X.prog X.w X.K X.mg X.base CX0 C "__contains__" k sp) (hr : Rm j X.A) (hk : k ≤ j := by decide) : OpR X (compareOp .In) (rInM C sp false) := by
  intro pins s σ H x y v u Q I rx ry h
  obtain ⟨a, dx, vs, rfl, sl, q⟩ := h
  cases (show u = Value.ref a from ry)
  obtain ⟨sl', od, _, J, _⟩ := slt_inst I sl
  obtain ⟨m, hF⟩ := I.fr
  obtain ⟨g, fd, ps, h1, h2, h3, b, F⟩ := M.ex
  refine PySem.W.in_K hF I.ok.mod.kin J h1 h2 ?_
  refine wpAny_mono (run_gA (us := [.ref a, v]) (vs := [.ref a, x]) F (hr.rm.mono hk) hr.gd I.env0 b passAt0 I (.cons rfl (.cons rx .nil)) q) (fun r s' z => ?_) fun _ _ x => x
  obtain ⟨z', H', I', rz, b', rfl, qz⟩ := z
  cases rz
  exact wpAny_truthy_bool ⟨.bl b', H', I', rfl, qz⟩
theorem op_notInM (M : Mth X.prog X.w X.K X.mg X.base CX0 C "__contains__" k sp) (hr : Rm j X.A) (hk : k ≤ j := by decide) : OpR X (compareOp .NotIn) (rInM C sp true) := by
  intro pins s σ H x y v u Q I rx ry h
  obtain ⟨a, dx, vs, rfl, sl, q⟩ := h
  cases (show u = Value.ref a from ry)
  obtain ⟨sl', od, _, J, _⟩ := slt_inst I sl
  obtain ⟨m, hF⟩ := I.fr
  obtain ⟨g, fd, ps, h1, h2, h3, b, F⟩ := M.ex
  refine PySem.W.notIn_K hF I.ok.mod.kin J h1 h2 ?_
  refine wpAny_mono (run_gA (us := [.ref a, v]) (vs := [.ref a, x]) F (hr.rm.mono hk) hr.gd I.env0 b passAt0 I (.cons rfl (.cons rx .nil)) q) (fun r s' z => ?_) fun _ _ x => x
  obtain ⟨z', H', I', rz, b', rfl, qz⟩ := z
  cases rz
  exact wpAny_truthy_bool ⟨.bl (!b'), H', I', rfl, qz⟩
/-- len(o) -/
def rLenM (C : Addr) (sp : Sp) : List V → Hp → VK → Prop := fun xs H Q => ∃ (a dx : Addr) (vs : List (Option V)), xs = [.ref a] ∧ Slt H a C dx vs ∧ sp [.ref a] H (fun v H' => ∃ n : Nat, v = .int n ∧ n < 1000 ∧ Q (.int n) H') E0
theorem call_lenM (M : Mth X.prog X.w X.K X.mg X.base CX0 C "__len__" k sp) (hr : Rm j X.A) (hk : k + 1 ≤ j := by decide) : CallR X (.builtin "len") (rLenM C sp) := by
  intro pins s σ H xs us Q I rel h
  obtain ⟨a, dx, vs, rfl, sl, q⟩ := h
  obtain ⟨u, rfl, rx⟩ := vals1 rel
  cases rx
  obtain ⟨sl', od, _, J, _⟩ := slt_inst I sl
  obtain ⟨m, hF⟩ := I.fr
  obtain ⟨g, fd, ps, h1, h2, h3, b, F⟩ := M.ex
  refine PySem.W.len_K hF I.ok.mod.kin J h1 h2 ?_
  refine wpAny_mono (run_gA (us := [.ref a]) (vs := [.ref a]) F (hr.rm.mono hk).in1 hr.gd I.env0.in1 b passAt0 I (.cons rfl .nil) q) (fun r s' z => ?_) fun _ _ x => x
  obtain ⟨z', H', I', rz, n, rfl, hn, qz⟩ := z
  obtain ⟨t, rfl⟩ := rz
  exact ⟨⟨by omega, by omega⟩, .int n, H', I'.tok _, ⟨_, rfl⟩, qz⟩
/-- str(o) -/
def rStrM (C : Addr) (sp : Sp) : List V → Hp → VK → Prop := fun xs H Q => ∃ (a dx : Addr) (vs : List (Option V)), xs = [.ref a] ∧ Slt H a C dx vs ∧ sp [.ref a] H (fun v H' => ∃ z, v = .str z ∧ Q (.str z) H') E0
theorem call_strM (M : Mth X.prog X.w X.K X.mg X.base CX0 C "__str__" k sp) (hr : Rm j X.A) (hk : k + 2 ≤ j := by decide) : CallR X (.type "str") (rStrM C sp) := by
  intro pins s σ H xs us Q I rel h
  obtain ⟨a, dx, vs, rfl, sl, q⟩ := h
  obtain ⟨u, rfl, rx⟩ := vals1 rel
  cases rx
  obtain ⟨sl', od, _, J, _⟩ := slt_inst I sl
  obtain ⟨g, fd, ps, h1, h2, h3, b, F⟩ := M.ex
  have room := (hr.rm.mono hk).in1.in1
  refine PySem.W.kso_call room.units0 I.kIn J h1 h2 ?_
  refine wpAny_mono (run_gA (us := [.ref a]) (vs := [.ref a]) F room hr.gd I.env0.in1.in1 b passAt0 I (.cons rfl .nil) q) (fun r s' z => ?_) fun _ _ x => x
  obtain ⟨z', H', I', rz, n, rfl, qz⟩ := z
  obtain ⟨t, rfl⟩ := rz
  exact ⟨.str n, H', I', ⟨t, rfl⟩, qz⟩
/-- x + y, both of the class -/
def tAddM (C : Addr) (sp : Sp) (E : L2.St → XK) (ta tb : TE) : TE := fun σ H Q => ta σ H fun x H1 => tb σ H1 fun y H2 => ∃ (a dx b dy : Addr) (vs ws : List (Option V)), x = .ref a ∧ y = .ref b ∧ Slt H2 a C dx vs ∧ Slt H2 b C dy ws ∧ sp [x, y] H2 Q (E σ)
theorem pe_addM {E : L2.St → XK} {a b : Expr} {ta tb : TE} {pos : Pos} (M : Mth X.prog X.w X.K X.mg X.base CX C "__add__" k sp) (sf : PySem.W.selfFirst X.K C = true) (hr : Rm j X.A) (hx : ∀ σ, PassesAt CX X σ (E σ)) (ha : PE X a ta) (hb : PE X b tb) (hk : k ≤ j := by decide) :
    PE X (.BinOp a .Add b pos) (tAddM C sp E ta tb) := by
  refine ⟨fun pins s σ H Q I h => ?_⟩
  refine wpAny_BinOp (binT ha hb I h fun v u s2 x y H2 I2 rx ry q => ?_)
  obtain ⟨a, dx, b, dy, vs, ws, rfl, rfl, sa, sb, q⟩ := q
  cases (show v = Value.ref a from rx)
  cases (show u = Value.ref b from ry)
  obtain ⟨sl', od, _, J, _⟩ := slt_inst I2 sa
  obtain ⟨sl2, od2, _, J2, _⟩ := slt_inst I2 sb
  obtain ⟨m, hF⟩ := I2.fr
  obtain ⟨g, fd, ps, h1, h2, h3, bb, F⟩ := M.ex
  refine PySem.W.binop_K (op := .Add) hF I2.ok.mod.kin J J2.type sf h1 h2 ?_
  refine wpAny_mono (run_gA (us := [.ref a, .ref b]) (vs := [.ref a, .ref b]) F (hr.rm.mono hk) hr.gd I2.env0 bb (hx σ) I2 (.cons rfl (.cons rfl .nil)) q) (fun r s' z => ?_) fun _ _ x => x
  obtain ⟨z', H', I', rz, qz⟩ := z
  exact cmpback rz ⟨z', H', I', rz, qz⟩
/-- x == y, x of the class; y: of a type that is not below it -/
def rEqM (K : PySem.W.Frag) (C : Addr) (sp : Sp) : R2 := fun x y H Q => ∃ (a dx : Addr) (vs : List (Option V)) (t : Value), x = .ref a ∧ Slt H a C dx vs ∧ ((∃ b dy ws, y = .ref b ∧ Slt H b C dy ws ∧ t = .ref C) ∨ TyX K H y t) ∧ PySem.W.notFirst K C t = true ∧ sp [x, y] H Q E0
theorem op_eqM (M : Mth X.prog X.w X.K X.mg X.base CX0 C "__eq__" k sp) (hr : Rm j X.A) (hk : k ≤ j := by decide) : OpR X (compareOp .Eq) (rEqM X.K C sp) := by
  intro pins s σ H x y v u Q I rx ry h
  obtain ⟨a, dx, vs, t, rfl, sl, hy, hn, q⟩ := h
  cases (show v = Value.ref a from rx)
  obtain ⟨sl', od, _, J, _⟩ := slt_inst I sl
  obtain ⟨m, hF⟩ := I.fr
  obtain ⟨g, fd, ps, h1, h2, h3, b, F⟩ := M.ex
  have hb : PySem.W.Looks (model X.prog X.w) s.heap (typeOf u) t := by
    rcases hy with ⟨b, dy, ws, rfl, sb, rfl⟩ | ty
    · cases (show u = Value.ref b from ry)
      obtain ⟨sl2, od2, _, J2, _⟩ := slt_inst I sb
      exact J2.type
    · obtain ⟨P, Z, p, _⟩ := kit_of I ry ty
      exact Z.ty _ _ I.kIn p
  refine PySem.W.cmp_K (op := .Eq) hr.rm.units0 hF I.ok.mod.kin J hb hn h1 h2 ?_
  refine wpAny_mono (run_gA (us := [.ref a, u]) (vs := [.ref a, y]) F (hr.rm.mono hk) hr.gd I.env0 b passAt0 I (.cons rfl (.cons ry .nil)) q) (fun r s' z => ?_) fun _ _ x => x
  obtain ⟨z', H', I', rz, qz⟩ := z
  exact cmpback rz ⟨z', H', I', rz, qz⟩
/-- o.m(e, ..) -/
theorem pe_mthd {E : L2.St → XK} {o e : Expr} {es : List Expr} {ta : TE} {t : TA} {pos apos : Pos} {pl : Sem Bool} (M : Mth X.prog X.w X.K X.mg X.base CX C m k sp) (c : SCls X.K C) (hr : Rm j X.A) (hx : ∀ σ, PassesAt CX X σ (E σ)) (he : PE X o ta) (ha : PA X (e :: es) t) (hk : k ≤ j := by decide)
    (hst : starEach (e :: es) X.env = (false, eval e X.env) :: starEach es X.env := by rfl) (hpl : (backTo pos (starEach es X.env)).any (·.1) = false := by rfl)
    (ht : eval (.Call (.Attribute o m apos) (e :: es) [] pos) X.env = (do
      let ov ← eval o X.env
      standAt apos.atName
      let (f, first) ← holding [ov] (getMethod ov m pl)
      callWith pos f first (backTo pos (starEach (e :: es) X.env)) (backToKw pos (keywordEach [] X.env))) := by rfl) :
    PE X (.Call (.Attribute o m apos) (e :: es) [] pos) (fun σ H Q => ta σ H fun x H1 => ∃ a dx vs, x = .ref a ∧ Slt H1 a C dx vs ∧ t σ H1 fun ws H2 => sp (x :: ws) H2 Q (E σ)) := by
  refine ⟨fun pins s σ H Q I h => ?_⟩
  refine PySem.W.methodCall_KW (pl := pl) (thn (he.run pins s σ H _ I h) fun u s1 ⟨x, H1, I1, rx, a, dx, vs, ex, hsl, q⟩ => ?_) ht
  subst ex
  obtain rfl : u = Value.ref a := rx
  obtain ⟨g, fd, ps, h1, h2, h3, b, F⟩ := M.ex
  refine getmethsl_ok I1 hsl c ⟨h1, h2, h3⟩ ?_
  refine PySem.W.callWith_K (first := [.ref a]) (h₀ := X.base) I.ok.mod.kin h3 (thn (ha.run pos pins s1 σ H1 _ I1 q) fun us s2 ⟨ws, H2, I2, r, q2⟩ => ⟨I2.kIn, ?_⟩) hst hpl
  exact run_gA (us := .ref a :: us) (vs := .ref a :: ws) F (hr.rm.mono hk) hr.gd I2.env0 b (hx σ) I2 (.cons rfl r) q2
/-- what is never reached -/
theorem ps_never {st : Stmt} : PS X st (fun _ _ _ => False) := ⟨fun _ _ _ _ _ _ h => h.elim⟩
end
end Fs
namespace Fs
open PySem PySem.Spec PyProof.Rows L2 SlX RZ
/-! ### != of a class with an own == and no own != -/
theorem obj_eq : ∃ y : Option Value, typeLookup (.type "object") "__eq__" = pure y := ⟨some (.builtin "object.__eq__"), by rw [typeLookup_type, builtinLookup_eq_fast]; kernel_rfl⟩
theorem ns_of {K : PySem.W.Frag} {h : Heap} {N : Addr} {mN : Str → Option Value} {n : Str} {v : Value} (X : K.In h) (G : h.Ns N mN) (e : PySem.W.nsIn K N n = some (some v)) : mN n = some v := by
  obtain ⟨o, es, ep, ho, hd, _, hf⟩ := G
  unfold PySem.W.nsIn at e
  split at e
  · rename_i c d es' n' sl q
    have z := X _ _ q
    rw [ho] at z
    cases z
    cases hd
    split at e
    · rename_i en he
      cases e
      rw [← hf]
      unfold nsFind findBy
      rw [← Array.find?_toList, he]
      rfl
    · split at e <;> cases e
  · cases e
structure NeF (K : PySem.W.Frag) (C : Addr) : Prop where
  ex : ∃ (nm q : Str) (N : Addr) (bs : List Value) (hdct : Bool) (sn : List Str) (sub : List Value) (ab : Bool) (col : Option Bool) (dd : Option Addr) (k0 k1 k2 k3 k5 : Option Value) (newId : String) (g : Addr),
    K.lookup C = some (excClassObj nm q C N bs [.type "object"] hdct sn sub ab col dd k0 k1 k2 k3 k5 newId) ∧ PySem.W.nsOkIn K N = true ∧ PySem.W.nsIn K N "__eq__" = some (some (.ref g)) ∧ PySem.W.nsIn K N "__ne__" = some none ∧
    (∃ og, K.lookup g = some og ∧ og.cls = .type "function") ∧ PySem.W.findIn K (.ref C) "__eq__" = some (some (.ref g))
def rNeM (C : Addr) (sp : Sp) : R2 := fun x y H Q => ∃ (a dx b dy : Addr) (vs ws : List (Option V)), x = .ref a ∧ y = .ref b ∧ Slt H a C dx vs ∧ Slt H b C dy ws ∧ sp [x, y] H (fun v H' => ∃ r, v = .bl r ∧ Q (.bl (!r)) H') E0
section
variable {X : Cx} {k j : Nat} {C : Addr} {sp : Sp}
theorem op_neM (M : Mth X.prog X.w X.K X.mg X.base CX0 C "__eq__" k sp) (N : NeF X.K C) (hr : Rm j X.A) (hk : k + 1 ≤ j := by decide) : OpR X (compareOp .NotEq) (rNeM C sp) := by
  intro pins s σ H x y v u Q I rx ry h
  obtain ⟨a, dx, b, dy, vs, ws, rfl, rfl, sa, sb, q⟩ := h
  cases (show v = Value.ref a from rx)
  cases (show u = Value.ref b from ry)
  obtain ⟨_, sl', _, e1, _⟩ := slt_at I sa
  obtain ⟨_, sl2, _, e2, _⟩ := slt_at I sb
  obtain ⟨nm, qn, Nn, bs, hdct, sn, sub, ab, col, dd, k0, k1, k2, k3, k5, newId, g', hC, hN, he, hne, ⟨og, hg, hgc⟩, hf⟩ := N.ex
  obtain ⟨g, fd, ps, h1, h2, h3, bb, F⟩ := M.ex
  have eg : g' = g := by
    rw [hf] at h1
    injection h1 with h1
    injection h1 with h1
    injection h1
  subst eg
  have X0 := I.kIn
  have hns : s.heap.Ns Nn (s.heap.nsMap Nn) := .of_isNs (PySem.W.isNs_of_in X0 hN)
  obtain ⟨yB, hyB⟩ := obj_eq
  have Y : s.heap.OwnEqNoNe a C g' "object" [.type "object"] := ⟨_, og, nm, qn, Nn, bs, hdct, sn, sub, ab, col, dd, k0, k1, k2, k3, k5, newId, s.heap.nsMap Nn, _, e1, rfl, X0 _ _ hC, hns, ns_of X0 hns he, X0 _ _ hg, hgc, PySem.F.mro_object, hyB, PySem.W.nsMap_none_of_in X0 hN hne⟩
  obtain ⟨hh, g, d, t, os⟩ := s
  have room := hr.rm.mono hk
  refine compareOp_ne_ownEq PySem.F.cmp_object Y e2 rfl (hu_of hr.rm) ?_
  refine wpAny_mono (run_gA (us := [.ref a, .ref b]) (vs := [.ref a, .ref b]) F room.in1 hr.gd I.env0.in1 bb passAt0 I (.cons rfl (.cons rfl .nil)) q) (fun r s' z => ?_) fun _ _ x => x
  obtain ⟨z', H', I', rz, r', rfl, qz⟩ := z
  cases rz
  exact ⟨r', rfl, .bl (!r'), H', I', rfl, qz⟩
end
end Fs
namespace Fs
open PySem PySem.Spec PyProof.Rows L2 SlX RZ
/-! ### a tuple that is known to its object: it may be asked for an index -/
section
variable {X : Cx} {o e : Expr} {to te : TE} {apos pos : Pos}
theorem call_tupleF : CallR X (.type "tuple") (fun xs H Q => ∃ p ys, xs = [.ref p] ∧ SqL X.K H p ys ∧ ∀ (l : Addr) (ob : Obj), H l = none → ob.dict = none → Q (.ref l) (upd H l (.frz ob (.tup ys)))) := by
  intro pins s σ H xs us Q I r h
  obtain ⟨p, ys, rfl, hq, q⟩ := h
  obtain ⟨u, rfl, rx⟩ := vals1 r
  cases rx
  obtain ⟨its, r', pl, hz⟩ := I.list hq
  have hlen := r'.length
  refine call_tuple_list pl.isList (fun h' kp => ?_) (by simp only [List.size_toArray] <;> omega)
  have I1 : Inv X pins σ H { s with heap := h' } := I.kept (t' := s.toks) kp
  have I2 : Inv X pins σ (upd H h'.objs.size (.frz { cls := .type "tuple", data := .seq its.toArray } (.tup ys))) { s with heap := h'.push { cls := .type "tuple", data := .seq its.toArray } } :=
    I1.laid (t' := s.toks) (fun b o e => Heap.get?_push_of_some _ e) (Nat.le_refl _) (show ObjOk X.prog X.w _ _ _ (.frz _ (.tup ys)) from ⟨Heap.get?_push_size _ rfl, hz, its, r', IsTup.new _ _⟩)
  exact ⟨.ref h'.objs.size, _, I2, rfl, q _ _ (I1.hok.fresh (Nat.le_refl _)) rfl⟩
/-- t.index(z) -/
def tTix (to te : TE) : TE := fun σ H Q => to σ H fun x H1 => ∃ (p : Addr) (ob : Obj) (zs : List Str), x = .ref p ∧ H1 p = some (.frz ob (.tup (zs.map V.str))) ∧ ob.dict = none ∧ te σ H1 fun y H2 => ∃ (z : Str) (j : Nat), y = .str z ∧ H2 p = some (.frz ob (.tup (zs.map V.str))) ∧ zs[j]? = some z ∧ (∀ m, m < j → zs[m]? ≠ some z) ∧ Q (.int (j : Nat)) H2
theorem pe_tindex (ho : PE X o to) (he : PE X e te) (hs : starEach [e] X.env = [(false, eval e X.env)] := by rfl) (hbase : attributeBase o "index" X.env (eval o X.env) = eval o X.env := by rfl) (hline : (apos.endLine == pos.line) = true := by rfl) :
    PE X (.Call (.Attribute o "index" apos) [e] [] pos) (tTix to te) := by
  refine ⟨fun pins s σ H Q I h => ?_⟩
  refine PySem.Call_method1 hbase hs hline (thn (ho.run pins s σ H _ I h) fun v s1 ⟨x, H1, I1, r1, p, ob, zs, ex, hp, hd, q1⟩ => ?_)
  subst ex
  cases r1
  obtain ⟨e1, _, its, rel, o', e2, hc, _⟩ := I1.hok _ _ hp
  rw [e1] at e2
  cases e2
  refine ⟨"tuple", _, PySem.F.plainAttrs_tuple, PySem.F.slot_tuple_index, PySem.F.type_tuple_index, ⟨ob, e1, hc⟩, (fun a ea => ?_), Calls.callWith_builtin rfl (Calls.evalArgs_plain (Calls.spliced_cons ?_))⟩
  · cases ea
    exact ⟨ob, e1, hd⟩
  · exact thn (he.run pins s1 σ H1 _ I1 q1) fun u s2 ⟨y, H2, I2, r2, z, j, ey, hp2, h1, h2, q2⟩ => Calls.spliced_nil (by
      subst ey
      exact mt_tup_index pins s2 σ H2 (.ref p) [.str z] _ [u] Q I2 rfl (.cons r2 .nil) ⟨p, zs, z, j, rfl, rfl, .inl (.inr ⟨ob, hp2⟩), h1, h2, q2⟩)
end
abbrev Parts := List (Str × Str)
def okP (ps : Parts) : Prop := ∀ p ∈ ps, nameL (cps p.1) = true ∧ signsL (cps p.2) = true
def dPair (p : Str × Str) : PyData := .tuple [.str p.1, .str p.2]
def dParts (ps : Parts) : PyData := .tuple (ps.map dPair)
def namesP (ps : Parts) : List Str := ps.map (·.1)
def kvsOf (ps : Parts) : List (Key × V) := ps.map fun p => (.inr p.1, .str p.2)
theorem slt_mono {H H' : Hp} {a C dx : Addr} {vs : List (Option V)} (h : Slt H a C dx vs) (e : Same H H') : Slt H' a C dx vs := by
  rcases h with ⟨h1, h2⟩ | ⟨h1, h2⟩
  · exact .inl ⟨e _ _ h1, h2⟩
  · exact .inr ⟨e _ _ h1, e _ _ h2⟩
theorem pairs_dx0 {H : Hp} : ∀ {as : List Addr} {ps : Parts}, Paired (PairAt H) as ps → okP ps → DxAll H (as.map V.ref) (ps.map dPair)
  | _, _, .nil, _ => .nil
  | _, _, .cons r t, h => by
    obtain ⟨h1, h2⟩ := h _ (List.mem_cons_self ..)
    exact .cons (.tup r (.cons (.str _ ((lo_name h1).tok (by decide))) (.cons (.str _ ((lo_signs h2).tok (by decide))) .nil))) (pairs_dx0 t fun p hp => h p (List.mem_cons_of_mem _ hp))
theorem parts_dx0 {H : Hp} {t : Addr} {ps : Parts} (h : PartsT H t ps) (ok : okP ps) : Dx H (.ref t) (dParts ps) := by
  obtain ⟨as, e, pr⟩ := h
  exact .tup e (pairs_dx0 pr ok)
theorem slH_same {H0 H : Hp} {a C dx : Addr} {vs : List (Option V)} (e : Same H0 H) (h1 : H0 a = none) (h2 : H0 dx = none) : Same H0 (slH H a C dx vs) := fun b o q => by
  rw [slH_ne (ne_of_none q h1) (ne_of_none q h2)]; exact e b o q
theorem paired_app {α β : Type} {F : α → β → Prop} : ∀ {l l' : List α} {m m' : List β}, Paired F l m → Paired F l' m' → Paired F (l ++ l') (m ++ m')
  | _, _, _, _, .nil, h => h
  | _, _, _, _, .cons r t, h => .cons r (paired_app t h)
theorem paired_get {α β : Type} {F : α → β → Prop} : ∀ {l : List α} {m : List β} {i : Nat} {x : α}, Paired F l m → l[i]? = some x → ∃ y, m[i]? = some y ∧ F x y
  | _, _, i, x, .nil, h => by simp at h
  | _, _, 0, x, .cons (b := y) r t, h => by
    simp only [List.getElem?_cons_zero, Option.some.injEq] at h
    subst h
    exact ⟨y, rfl, r⟩
  | _, _, i + 1, x, .cons r t, h => by
    simp only [List.getElem?_cons_succ] at h ⊢
    exact paired_get t h
theorem nodup_at {α : Type} : ∀ {l : List α} {i j : Nat} {x : α}, l.Nodup → l[i]? = some x → l[j]? = some x → i = j
  | [], i, _, _, _, h, _ => by simp at h
  | a :: l, 0, 0, _, _, _, _ => rfl
  | a :: l, 0, j + 1, x, nd, h, g => by
    simp only [List.getElem?_cons_zero, Option.some.injEq] at h
    simp only [List.getElem?_cons_succ] at g
    subst h
    exact absurd (List.mem_of_getElem? g) (List.nodup_cons.mp nd).1
  | a :: l, i + 1, 0, x, nd, h, g => by
    simp only [List.getElem?_cons_zero, Option.some.injEq] at g
    simp only [List.getElem?_cons_succ] at h
    subst g
    exact absurd (List.mem_of_getElem? h) (List.nodup_cons.mp nd).1
  | a :: l, i + 1, j + 1, x, nd, h, g => by
    simp only [List.getElem?_cons_succ] at h g
    rw [nodup_at (List.nodup_cons.mp nd).2 h g]
theorem putK_new' {kvs : List (Key × V)} {x : Str} {v : V} (h : ∀ kv ∈ kvs, kv.1 ≠ (.inr x : Key)) : putK kvs (.inr x : Key) v = kvs ++ [(.inr x, v)] := by
  unfold putK
  rw [if_neg]
  intro q
  obtain ⟨kv, h1, h2⟩ := List.any_eq_true.mp q
  exact h kv h1 (of_decide_eq_true h2)
section
variable {P : Program} {w : World} {K : PySem.W.Frag} {mg : Str → Option Value} {base : Heap} {C SO : Addr}
end
def inD (ns : List Str) : PyData → Bool
  | .str z => decide (z ∈ ns)
  | _ => false
theorem valV_kvs (z : Str) : ∀ ps : Parts, (valV (kvsOf ps) (.inr z : Key)).isSome = decide (z ∈ namesP ps)
  | [] => by simp [kvsOf, namesP, valV]
  | (n, sg) :: ps => by
    have ih := valV_kvs z ps
    by_cases e : n = z
    · subst e
      have h1 : valV (kvsOf ((n, sg) :: ps)) (.inr n : Key) = some (.str sg) := valV_pos rfl
      rw [h1]
      have : n ∈ namesP ((n, sg) :: ps) := List.mem_cons_self ..
      rw [decide_eq_true this]; rfl
    · have h1 : valV (kvsOf ((n, sg) :: ps)) (.inr z : Key) = valV (kvsOf ps) (.inr z : Key) := valV_neg (by
        intro q
        have q : (Sum.inr n : Key) = Sum.inr z := q
        injection q with q
        exact e q)
      rw [h1, ih]
      have : (z ∈ namesP ((n, sg) :: ps)) ↔ z ∈ namesP ps := by
        unfold namesP
        rw [List.map_cons, List.mem_cons]
        exact ⟨fun h => h.resolve_left fun q => e q.symm, .inr⟩
      by_cases c : z ∈ namesP ps
      · rw [decide_eq_true c, decide_eq_true (this.mpr c)]
      · rw [decide_eq_false c, decide_eq_false (fun h => c (this.mp h))]
theorem valV_at {n sg : Str} : ∀ {ps : Parts}, (namesP ps).Nodup → (n, sg) ∈ ps → valV (kvsOf ps) (.inr n : Key) = some (.str sg)
  | (m, tg) :: ps, nd, h => by
    have nd' := List.nodup_cons.mp nd
    rcases List.mem_cons.mp h with e | h
    · injection e with e1 e2
      subst e1 e2
      exact valV_pos rfl
    · have hn : n ∈ namesP ps := List.mem_map.mpr ⟨_, h, rfl⟩
      have hne : m ≠ n := fun e => nd'.1 (by subst e; exact hn)
      have h1 : valV (kvsOf ((m, tg) :: ps)) (.inr n : Key) = valV (kvsOf ps) (.inr n : Key) := valV_neg (by
        intro q
        have q : (Sum.inr m : Key) = Sum.inr n := q
        injection q with q
        exact hne q)
      rw [h1]
      exact valV_at nd'.2 h
section
variable {P : Program} {w : World} {K : PySem.W.Frag} {mg : Str → Option Value} {base : Heap} {C SO : Addr} {f : Addr} {fd : FuncData}
/-- a def of the class from its body (nothing is raised) -/
theorem fn_by {x qual : Str} {st : Stmt} {N ps : List Str} {k : Nat} {sp : Sp} (F : L2.Fun K x qual st f fd) (S : FnScope N ps (defScope st)) (lens : ∀ vs H Q E, sp vs H Q E → vs.length = ps.length)
    (body : ∀ (cdv : Value) (A : Around) (outer : List Env) (s : Shared) (H : Hp) (vs : List V) (Q : VK) (E : XK), Rm k (A.deeper (envOfC qual (defScope st) s.heap.objs.size f cdv)) → sp vs H Q E →
      ∃ t, PSs (cxOf CX0 P w K mg base N qual (defScope st) f cdv A outer s H E).nox (defBody st) t ∧ t { nx := fun _ H' => Q .non H', rt := Q } (start N vs) H) : FnG P w K mg base CX0 (k + 1) f fd ps sp := by
  refine FnG.by F S lens (fun cdv A outer s H vs Q E room guards want => ?_)
  obtain ⟨t, d, r⟩ := body cdv A outer s H vs Q E ⟨room, guards⟩ want
  exact ⟨t, d.nox, r⟩
end
/-! ### defs with a last default None -/
structure DfD (K : PySem.W.Frag) (mg : Str → Option Value) (x : Str) (st : Stmt) (ps : List Str) : Prop where
  ex : ∃ (f : Addr) (fd : FuncData), FunD K x x (defArgs st) (defBody st) (defScope st) [.non] [] f fd ∧ mg x = some (.ref f) ∧ Binds K fd ps [] ∧ Binds K fd ps [Value.none]
structure CalD (P : Program) (w : World) (K : PySem.W.Frag) (mg : Str → Option Value) (base : Heap) (k : Nat) (x : Str) (sp : Sp) : Prop where
  ex : ∃ (f : Addr) (fd : FuncData) (ps : List Str), FnG P w K mg base CX0 k f fd ps sp ∧ mg x = some (.ref f) ∧ PySem.W.keepIn K (.ref f) = true ∧ Binds K fd ps [Value.none]
section
variable {P : Program} {w : World} {K : PySem.W.Frag} {mg : Str → Option Value} {base : Heap}
theorem FnG.byD {x : Str} {st : Stmt} {N ps : List Str} {k : Nat} {sp : Sp} {f : Addr} {fd : FuncData} (F : FunD K x x (defArgs st) (defBody st) (defScope st) [.non] [] f fd) (S : FnScope N ps (defScope st)) (lens : ∀ vs H Q E, sp vs H Q E → vs.length = ps.length)
    (body : ∀ (cdv : Value) (A : Around) (outer : List Env) (s : Shared) (H : Hp) (vs : List V) (Q : VK) (E : XK), Rm k (A.deeper (envOfC x (defScope st) s.heap.objs.size f cdv)) → sp vs H Q E →
      ∃ t, PSs (cxOf CX0 P w K mg base N x (defScope st) f cdv A outer s H E).nox (defBody st) t ∧ t { nx := fun _ H' => Q .non H', rt := Q } (start N vs) H) : FnG P w K mg base CX0 (k + 1) f fd ps sp := by
  obtain ⟨c1, d1, dV, v1, v2, v3, n1, cdv, v4, sl, efd, look, code, _, _⟩ := F.ex
  subst efd
  constructor
  · exact lens
  intro A outer s H args us vs Q E room guards env bind rel want
  have inK : K.In s.heap := env.mod.kin.keeps fun b o e => And.left (env.bs b o e)
  have noLim : s.heap.NoLimit := env.mod.nolimit.keeps fun b o e => And.left (env.bs b o e)
  have kinds : ∀ z ∈ ps.zip us, (defScope st).names.lookup z.1 = some .local ∨ ((defScope st).names.lookup z.1 = some .cell ∧ ((cellsFrom (s.heap.objs.size + 1) (defScope st).names []).lookup z.1).isSome = true) := by
    rintro ⟨nm, val⟩ hz
    cases S.par nm (List.of_mem_zip hz).1 with
    | inl c => exact Or.inl c
    | inr c => exact Or.inr ⟨c, PySem.W.cellsFrom_some _ _ _ (Or.inl c)⟩
  refine codeAny_call_function room.depth (inK _ _ look) rfl S.co S.gen rfl (PySem.W.codeRec_of inK code) (bind _ _ _ _ (wpAny_newFunctionEnv_cells S.kind kinds ?_))
  intro env' eEnv s' made
  subst eEnv
  refine And.intro (noLim.keeps made.toInCall.keep) (codeAny_func ?_)
  rcases body cdv A outer s H vs Q E ⟨room.deeper _, guards⟩ want with ⟨t, der, rd⟩
  have J := inv_start (CX := CX0) (E := E) S room.hd env (lens _ _ _ _ want) rel made
  have done : ∀ {σ2 : L2.St} {H2 : Hp} {s2 : Shared} {v : V} {u : Value}, Inv (cxOf CX0 P w K mg base N x (defScope st) f cdv A outer s H E) [] σ2 H2 s2 → RelV v u → Q v H2 → CE outer P w H s Q u s2 := by
    intro σ2 H2 s2 v u J2 r2 q2
    exact ⟨v, H2, J2.os, J2.bare, J2.base, J2.hok, r2, q2⟩
  refine wpAny_mono (der.nox.run [] s' _ H _ J rd) ?_ (fun _ _ he => he)
  intro fl s2 h2
  cases fl
  case ret u => rcases h2 with ⟨v, σ2, H2, J2, r2, q2⟩; exact done J2 r2 q2
  case next => rcases h2 with ⟨σ2, H2, J2, q2⟩; exact done (v := .non) (u := .none) J2 rfl q2
  case brk => rcases h2 with ⟨_, _, _, q2⟩; cases q2
  case cont => rcases h2 with ⟨_, _, _, q2⟩; cases q2
theorem DfD.cal {x : Str} {st : Stmt} {N ps : List Str} {k : Nat} {sp : Sp} (D : DfD K mg x st ps) (S : FnScope N ps (defScope st)) (lens : ∀ vs H Q E, sp vs H Q E → vs.length = ps.length)
    (body : ∀ (f : Addr) (cdv : Value) (A : Around) (outer : List Env) (s : Shared) (H : Hp) (vs : List V) (Q : VK) (E : XK), Rm k (A.deeper (envOfC x (defScope st) s.heap.objs.size f cdv)) → sp vs H Q E →
      ∃ t, PSs (cxOf CX0 P w K mg base N x (defScope st) f cdv A outer s H E).nox (defBody st) t ∧ t { nx := fun _ H' => Q .non H', rt := Q } (start N vs) H) : Cal P w K mg base (k + 1) x sp ∧ CalD P w K mg base (k + 1) x sp := by
  obtain ⟨f, fd, F, m, b0, b1⟩ := D.ex
  have G := FnG.byD (P := P) (w := w) (base := base) (mg := mg) F S lens (fun cdv A outer s H vs Q E hr want => body f cdv A outer s H vs Q E hr want)
  exact ⟨⟨f, fd, ps, G, m, F.kp, b0⟩, ⟨f, fd, ps, G, m, F.kp, b1⟩⟩
end
section
variable {X : Cx} {k j : Nat} {x : Str} {sp : Sp} {p pos : Pos} {e : Expr} {es : List Expr} {t : TA}
/-- f(e, ..), the last parameter by its default None -/
theorem pcD (c : CalD X.prog X.w X.K X.mg X.base k x sp) (hr : Rm j X.A) (ha : PA X (e :: es) t) (hk : k ≤ j := by decide) (hg : Gl X x := by rfl)
    (hdb : (x == ("__debug__" : Str)) = false := by decide) (he : starEach (e :: es) X.env = (false, eval e X.env) :: starEach es X.env := by rfl) (hpl : (backTo pos (starEach es X.env)).any (·.1) = false := by rfl) :
    PE X (.Call (.Name x p) (e :: es) [] pos) (tCallS (fun vs => sp (vs ++ [.non])) (fun _ => E0) t) := by
  obtain ⟨f, fd, ps, F, hm, kp, b⟩ := c.ex
  constructor
  intro pins s σ H Q I want
  apply wpAny_Call_Name_kw
  refine ld_glob I hg hm ?_ hdb
  refine PySem.W.callWith_K (h₀ := X.base) I.ok.mod.kin kp ?_ he hpl
  refine thn (ha.run pos pins s σ H _ I want) ?_
  rintro us s2 ⟨vs, H2, I2, rel, q⟩
  refine ⟨I2.kIn, ?_⟩
  have rel2 : Vals (vs ++ [.non]) (us ++ [Value.none]) := rel.append (.cons rfl .nil)
  have hl : (us ++ [Value.none]).length = ps.length := by rw [← rel2.length]; exact F.lens _ _ _ _ q
  have b1 := b s2 us I2.kIn hl
  refine wpAny_call (codeAny_mono (F.goes X.A X.stack s2 H2 ⟨us, []⟩ (us ++ [Value.none]) (vs ++ [.non]) Q E0 (hr.rm.mono hk) hr.gd I2.env0 b1 rel2 q) ?_)
  intro r s' h
  match r, h with
  | .error err, h => exact h.elim
  | .ok (.ret u), h => exact I2.after h
  | .ok .next, h => exact h.elim
  | .ok .brk, h => exact h.elim
  | .ok .cont, h => exact h.elim
end
/-- zip of two tuples of one length -/
theorem walk_zipT {K : PySem.W.Frag} {a b : Addr} {xs ys : List V} (hl : xs.length = ys.length) : Walk (ItzT K a b) xs.length (fun H => H a = some (.tup xs) ∧ H b = some (.tup ys)) (fun i H v H' => ∃ T x y, v = .ref T ∧ H T = none ∧ H' = upd H T (.tup [x, y]) ∧ xs[i]? = some x ∧ ys[i]? = some y) := by
  refine ⟨fun i H hi g => ?_, fun H g => ?_, fun i H v H' hi g y => ?_⟩
  · exact ⟨xs, ys, xs[i], ys[i]'(by omega), SqT.of g.1, SqT.of g.2, by simp [hi], by simp [hl ▸ hi]⟩
  · exact ⟨xs, ys, SqT.of g.1, SqT.of g.2, .inl (Nat.le_refl _)⟩
  · obtain ⟨T, x, y, h1, h2, h3, h4, h5⟩ := y
    exact ⟨T, x, y, h1, h2, h3, h4 xs (SqT.of g.1), h5 ys (SqT.of g.2)⟩
/-! ### words, contents, fillings -/
def wordL (sg z : Str) : Bool := (cps z).all fun c => decide (c ∈ cps sg)
def isWordD (sg : Str) : PyData → Bool
  | .str z => wordL sg z
  | _ => false
section
variable {P : Program} {w : World} {K : PySem.W.Frag} {mg : Str → Option Value} {base : Heap} {C SO : Addr} {f : Addr} {fd : FuncData}
/-- a tuple of small texts -/
def WordsT (H : Hp) (t : Addr) (ws : List Str) : Prop := H t = some (.tup (ws.map V.str)) ∧ ∀ z ∈ ws, TOk z
theorem dx_words {H : Hp} : ∀ {ws : List Str}, (∀ z ∈ ws, TOk z) → DxAll H (ws.map V.str) (ws.map PyData.str)
  | [], _ => .nil
  | z :: ws, h => .cons (.str z (h z (List.mem_cons_self ..))) (dx_words fun y hy => h y (List.mem_cons_of_mem _ hy))
theorem WordsT.dx {H : Hp} {t : Addr} {ws : List Str} (h : WordsT H t ws) : Dx H (.ref t) (.tuple (ws.map .str)) := .tup h.1 (dx_words h.2)
def lensOf (ws : List Str) : Nat := (ws.map (·.length)).sum
end
end Fs
namespace Fs
open PySem PySem.Spec PyProof.Rows L2 SlX RZ
/-! ### a class of errors whose __init__ says super().__init__(m) and keeps one value -/
/-- the __init__: its text -/
structure SupB (st : Stmt) (a b f : Str) : Prop where
  body : ∃ (m : Str) (j : Nat) (p0 p1 p2 p3 p4 p5 p6 p7 p8 p9 : Pos), defBody st = [.Expr (.Call (.Attribute (.Call (.Name "super" p0) [] [] p1) "__init__" p2) [.Constant (.str m) j p3] [] p4) p5, .Assign [.Attribute (.Name a p6) f p7] (.Name b p8) p9] ∧
    (∃ pl : Sem Bool, ∀ env : Env, eval (.Call (.Attribute (.Call (.Name "super" p0) [] [] p1) "__init__" p2) [.Constant (.str m) j p3] [] p4) env = (do
      let ov ← attributeBase (.Call (.Name "super" p0) [] [] p1) "__init__" env (eval (.Call (.Name "super" p0) [] [] p1) env)
      standAt p2.atName
      let (f, first) ← holding [ov] (getMethod ov "__init__" pl)
      callWith p4 f first (backTo p4 (starEach [.Constant (.str m) j p3] env)) [])) ∧
    (∀ env : Env, swapsWith (.Call (.Attribute (.Call (.Name "super" p0) [] [] p1) "__init__" p2) [.Constant (.str m) j p3] [] p4) none p5.line env = pure false) ∧ (∀ env : Env, swapsWith (.Name b p8) (some (.Attribute (.Name a p6) f p7)) p9.line env = pure false)
  ar : ∃ r, ((defArgs st).posonlyargs ++ (defArgs st).args).head? = some r ∧ r.arg = a
  co : (defScope st).isCoroutine = false
  gen : (defScope st).isGenerator = false
  kind : (defScope st).kind = .function
  nocell : ∀ x ∈ (defScope st).names, x.2 ≠ .cell
  la : (defScope st).names.lookup a = some .local
  lb : (defScope st).names.lookup b = some .local
  ls : (defScope st).names.lookup ("super" : Str) = some .globalImplicit
  lc : (defScope st).names.lookup ("__class__" : Str) = some .free
  ne : a ≠ b
  da : (a == ("__debug__" : Str)) = false
  db : (b == ("__debug__" : Str)) = false
/-- what the class has -/
structure SupF (P : Program) (K : PySem.W.Frag) (mg : Str → Option Value) (B newId initId : String) (bmB : List Value) (C fI : Addr) (st : Stmt) (a b f qual : Str) : Prop where
  base : ExcBaseFacts B newId initId bmB
  kxs : PySem.W.KxsFacts B initId
  store : StoreFacts B bmB "object.__setattr__" "object"
  ex : PySem.W.excInitIn K C bmB newId = true
  over : PySem.W.excOver K C bmB = true
  init : PySem.W.findIn K (.ref C) "__init__" = some (some (.ref fI))
  tyI : PySem.W.typeIn K (.ref fI) = some (.type "function")
  sup : PySem.W.ks_superIn K C C "__init__" = some (some (.builtin initId))
  subB : PySem.W.subIn K (.ref C) (.type B) = some true
  subE : PySem.W.subIn K (.ref C) (.type "BaseException") = some true
  selfIn : PySem.W.mroIn K C (.ref C) = some true
  tyC : PySem.W.typeIn K (.ref C) = some (.type "type")
  sa : PySem.W.findIn K (.ref C) "__setattr__" = some (some (.builtin "object.__setattr__"))
  tk : PySem.W.takerIn K C f = some none
  dct : PySem.W.hasDictIn K C = true
  opq : PySem.W.nsIn K cStatics "thirdparty.any" = some none
  kC : PySem.W.keepIn K (.ref C) = true
  ms : mg "super" = none
  top : (P.main.scope.names.lookup ("super" : Str)).isSome = false
  fn : ∃ (oc : Value) (od : Option Addr) (dV kV doc pm ct : Value) (an : Option Addr) (cda : Addr) (osl : Array (Option Value)) (cc : Addr) (ccl : Value) (cdd : Option Addr) (vs : Array Value) (ccs : Array (Option Value)) (file : Str) (tf : Tok) (cl : Value) (cld : Option Addr) (csl : Array (Option Value)),
    K.lookup fI = some ⟨oc, od, .func (PySem.W.ksFn "__init__" qual (defArgs st) (defBody st) (defScope st) dV kV doc pm an (.ref cda) ct cc), osl⟩ ∧ PySem.W.codeIn K (.ref cda) qual = true ∧ K.lookup cda = some ⟨ccl, cdd, .fields vs, ccs⟩ ∧ vs[2]? = some (.str file tf) ∧ ((P.main.file : Str) == file) = true ∧
    K.lookup cc = some ⟨cl, cld, .cell (some (.ref C)), csl⟩ ∧ Binds K (PySem.W.ksFn "__init__" qual (defArgs st) (defBody st) (defScope st) dV kV doc pm an (.ref cda) ct cc) [a, b] []
theorem store_own {prog : Program} {w : World} {A : Around} {E : Value → Shared → Prop} {h : Heap} {g : Array GenState} {d : Drawn} {t : Nat} {os : OsState} {K : PySem.W.Frag} {x C : Addr} {fv : Array Value} {cd : ClassData} {name : Str} {tk : Tok} {v : Value} {bb : Bool} {Q : PySem.Fin → Shared → Prop}
    (X : K.In h) (hx : h.get? x = some { cls := .ref C, data := .fields fv }) (hcd : PySem.W.clsIn K C = some cd) (hh : cd.hasDict = true)
    (hq : ∀ h' tk' dx, (∀ b o, b ≠ x → h.get? b = some o → h'.get? b = some o) → h.objs.size ≤ dx → dx ≠ x → h'.get? x = some { cls := .ref C, dict := some dx, data := .fields fv } → h'.Ns1 dx (fun y => if y = name then some v else none) → Q (.done (.ret .none)) ⟨h', g, d, tk', os⟩) :
    wpAny (model prog w) A (Builtin.ObjectAttr.storeInOwnDict (.ref x) (.ref C) (.str name tk) name v bb) Q E ⟨h, g, d, t, os⟩ := by
  have hcls : PySem.W.Looks (model prog w) h (classData C) cd := PySem.W.looks_clsIn X hcd
  have hxs : x ≠ h.objs.size := Nat.ne_of_lt (Heap.lt_size hx)
  obtain ⟨nm, bs, mro, ns, qn, hd, sn, sb, ab, col, del⟩ := cd
  dsimp only at hh
  subst hh
  unfold Builtin.ObjectAttr.storeInOwnDict Builtin.ObjectAttr.ownDictForStores
  repeat (first | with_reducible refine PySem.PX.store_in_new ?_ ?_ | with_reducible refine wpAny_loadPart_at hx ?_ | with_reducible refine hcls.at ?_ | wp_step)
  · exact ⟨_, #[], _, (Heap.get?_update_ne _ _ _ _ hxs.symm).trans (Heap.get?_push_at rfl rfl), rfl, fun e he => absurd he (by simp), fun _ => rfl⟩
  · intro h' tk' hn' hs
    have hx₁ : (h.push { cls := .type "dict", data := .dict #[] }).get? x = some { cls := .ref C, data := .fields fv } := Heap.get?_push_of_some _ hx
    refine hq h' tk' h.objs.size (fun b o hb ho => ?_) (Nat.le_refl _) hxs.symm ?_ hn'
    · exact (hs.2 b (Nat.ne_of_lt (Heap.lt_size ho))).trans ((Heap.get?_update_ne _ _ _ _ hb).trans (Heap.get?_push_of_some _ ho))
    · exact (hs.2 x hxs).trans (Heap.get?_update_self _ hx₁ rfl)
section
variable {P : Program} {w : World} {A : Around} {R : Result → Shared → Prop} {hp : Heap} {g : Array GenState} {d : Drawn} {t : Nat} {os : OsState} {K : PySem.W.Frag} {mg mb : Str → Option Value} {B newId initId : String} {bmB : List Value} {C fI x t0 : Addr} {st : Stmt} {a b f qual : Str} {v : Value}
theorem sup_init (S : SupF P K mg B newId initId bmB C fI st a b f qual) (T : SupB st a b f) (X : K.In hp) (lim : hp.NoLimit) (G : hp.Ns mainGlobals mg) (Bn : hp.Ns builtinsNs mb) (hbb : ∀ y : Str, y ≠ "__name__" → mb y = bootBuiltins y) (room : A.depth < recursionLimit)
    (hx : hp.get? x = some (PySem.W.excObj C t0 none .none)) (hKx : K.lookup x = none)
    (hq : ∀ (h' : Heap) (tk' : Nat) (dx t1 : Addr), (∀ b o, b ≠ x → hp.get? b = some o → h'.get? b = some o) → hp.objs.size ≤ dx → dx ≠ x → h'.get? x = some (PySem.W.excObj C t1 (some dx) .none) → h'.Ns1 dx (fun y => if y = f then some v else none) →
      R (.ok (.ret .none)) ⟨h', g, d, tk', os⟩) :
    codeAny (model P w) A (.call (.ref fI) ⟨[.ref x, v], []⟩) R ⟨hp, g, d, t, os⟩ := by
  obtain ⟨oc, od, dV, kV, doc, pm, ct, an, cda, osl, cc, ccl, cdd, vs, ccs, file, tf, cl, cld, csl, look, hcode, lcd, hvs, hfile, lcc, bnd⟩ := S.fn
  obtain ⟨m, j, p0, p1, p2, p3, p4, p5, p6, p7, p8, p9, hbody, ⟨pl, hev⟩, hsw, hsw2⟩ := T.body
  obtain ⟨r, har, hra⟩ := T.ar
  have bind := bnd ⟨hp, g, d, t, os⟩ [.ref x, v] X rfl
  refine PySem.ks_codeAny_call_defAt (body := defBody st) room (X _ _ look) rfl lim (PySem.W.codeRec_of X hcode) rfl bind T.nocell ?_ (fun h0 hns kp => ?_) T.co T.gen T.kind
  · intro y hy
    simp only [List.append_nil, List.zip_cons_cons, List.zip_nil_right, List.mem_cons, List.not_mem_nil, or_false] at hy
    rcases hy with rfl | rfl
    · exact T.la
    · exact T.lb
  have X0 : K.In h0 := X.keeps kp
  have lrev : ∀ y : Str, (List.zip [a, b] ([Value.ref x, v] ++ [])).reverse.lookup y = if y = b then some v else if y = a then some (.ref x) else none := by
    intro y
    show List.lookup y [(b, v), (a, Value.ref x)] = _
    by_cases h1 : y = b
    · subst h1; simp [List.lookup]
    · rw [if_neg h1]
      have e1 : (y == b) = false := by simpa using h1
      by_cases h2 : y = a
      · subst h2; simp [List.lookup, e1]
      · have e2 : (y == a) = false := by simpa using h2
        rw [if_neg h2]; simp [List.lookup, e1, e2]
  have n0 : h0.Ns hp.objs.size (fun y => if y = b then some v else if y = a then some (.ref x) else none) := by
    have e : (fun y => (List.zip [a, b] ([Value.ref x, v] ++ [])).reverse.lookup y) = (fun y => if y = b then some v else if y = a then some (.ref x) else none) := funext lrev
    rw [← e]; exact hns
  have hab : a ≠ b := T.ne
  generalize hL : hp.objs.size = L at n0 hns ⊢
  have kpx : h0.get? x = some (PySem.W.excObj C t0 none .none) := kp _ _ hx
  generalize henv : callEnv (PySem.W.ksFn "__init__" qual (defArgs st) (defBody st) (defScope st) dV kV doc pm an (.ref cda) ct cc) L fI = env
  have eL : env.locals = L := by subst henv; rfl
  have eS : env.scope = defScope st := by subst henv; rfl
  have eG : env.globals = mainGlobals := by subst henv; rfl
  have eB : env.builtins = builtinsNs := by subst henv; rfl
  have eF : env.func = some fI := by subst henv; rfl
  have eC : env.code = .ref cda := by subst henv; rfl
  have eK : env.scope.kind = .function := by rw [eS]; exact T.kind
  have eCell : env.cells.lookup ("__class__" : Str) = some cc := by subst henv; rfl
  rw [hbody]
  have hI : PySem.W.InstAt h0 x (PySem.W.excObj C t0 none .none) C none := ⟨kpx, rfl, rfl, trivial⟩
  obtain ⟨cd, hcd⟩ : ∃ cd, PySem.W.clsIn K C = some cd := by
    have h := S.sup
    unfold PySem.W.ks_superIn at h
    cases hc : PySem.W.clsIn K C with
    | none => rw [hc] at h; cases h
    | some cd => exact ⟨cd, rfl⟩
  obtain ⟨oD, hD1, hD2⟩ : ∃ oD, h0.get? C = some oD ∧ oD.data = .cls cd := by
    have hD := hcd
    unfold PySem.W.clsIn at hD
    split at hD
    · rename_i c d cd' sl ho
      cases hD
      exact ⟨_, X0 _ _ ho, rfl⟩
    · cases hD
  have hint : interactive env = false := by unfold interactive; rw [eK]; rfl
  refine PySem.ks_wpAt_execs_cons (PySem.ks_wpAt_Expr_any (PySem.ks_wpAt_MethodCall (he := hev env) (PySem.ks_wpAt_super_base (by rw [Env.kindOf, eS]; exact T.ls) (by rw [Env.kindOf, eS]; exact T.lc) (by decide +kernel) eF (X0 _ _ look) rfl har eC (X0 _ _ lcd) rfl hvs hfile S.top ?_)) hint (hsw env))
  refine PySem.W.ks_loadName_global eK (by rw [Env.kindOf, eS]; exact T.ls) (Calls.loadGlobal_builtin (mg := mg) (mb := mb) (by rw [eG]; exact G.keeps kp) S.ms (by rw [eB]; exact Bn.keeps kp) ((hbb _ (by decide +kernel)).trans (by decide +kernel)) ⟨rfl, ?_⟩)
  refine wpAny_loadName_free eK (by rw [Env.kindOf, eS]; exact T.lc) eCell ⟨_, X0 _ _ lcc, rfl⟩ ?_
  rw [hra]
  refine wpAny_loadName_local (m := fun y => if y = b then some v else if y = a then some (.ref x) else none) eK (by rw [Env.kindOf, eS]; exact T.la) (by rw [eL]; exact n0) (by rw [if_neg hab, if_pos rfl]) ?_
  refine ks_wpAny_isType_cls hD1 hD2 ⟨rfl, ?_⟩
  refine ks_wpAny_call_super hD1 hD2 hI.at_ hI.cls (fun c e => ?_) (PySem.W.looks_mroIn X0 S.selfIn) (fun h1 e1 k1 => ?_)
  · have := hI.no
    unfold PySem.W.notCls at this
    rw [e] at this
    exact Bool.noConfusion this
  have X1 : K.In h1 := X0.keeps k1
  have hsup := S.sup
  unfold PySem.W.ks_superIn at hsup
  rw [hcd] at hsup
  have hI1 : PySem.W.InstAt h1 x (PySem.W.excObj C t0 none .none) C none := ⟨k1 _ _ kpx, rfl, rfl, trivial⟩
  have L1 : PySem.W.Looks (model P w) h1 (isInstance (.ref x) (.type B)) true := hI1.type.andThen (PySem.W.looks_subIn X1 S.subB)
  refine PySem.W.kxs_getMethod S.kxs e1 (PySem.W.looks_opaque X1 S.opq) (l₀ := cd.mro) (fun A Q E s k q => wpAny_bind ((PySem.W.looks_clsIn X1 hcd) A _ E s k (wpAny_pure q))) rfl X1 hsup L1 (PySem.W.ks_ne X1 hI1 hcd) (by decide +kernel) ?_
  have hx1 : h1.get? x = some (PySem.W.excObj C t0 none .none) := k1 _ _ kpx
  have hx2 : (h1.push (PySem.W.kxs_mw initId x)).get? x = some (PySem.W.excObj C t0 none .none) := Heap.get?_push_of_some _ hx1
  have hu : (h1.push (PySem.W.kxs_mw initId x)).get? h1.objs.size = some (PySem.W.kxs_mw initId x) := Heap.get?_push_at rfl rfl
  show wpAny _ _ (callWith p4 (.ref h1.objs.size) [] ((false, eval (.Constant (.str m) j p3) env) :: backTo p4 (starEach [] env)) []) _ _ _
  refine PySem.W.kxs_callWith (i := initId) (x := x) (u := h1.objs.size) (by rfl) (Calls.evalArgs_plain (Calls.spliced_cons (Calls.Constant_str (Calls.spliced_nil ⟨hu, ?_⟩))))
  obtain ⟨nm, N', qn, bs, bm, hdct, sn, sub, ab, col, dd, k0', k1', k2', k3', k5', hC, hT⟩ := PySem.W.excInit_of X1 S.ex
  have hC2 := Heap.get?_push_of_some (PySem.W.kxs_mw initId x) hC
  refine wpAny_call (codeAny_of_tree ?_)
  show wpAny _ _ (callAny (.ref h1.objs.size) ⟨[.str m _], []⟩) _ _ _
  simp only [callAny]
  refine wpAny_bind (wpAny_load hu ?_)
  simp only [PySem.W.kxs_mw, show (Value.type "method-wrapper" == Value.type "method" || Value.type "method-wrapper" == Value.type "builtin_function_or_method" || Value.type "method-wrapper" == Value.type "method-wrapper") = true by decide, if_true]
  refine PySem.W.KFB.if_so (by decide) ?_
  refine wpAny_bind (PySem.W.check_bound_init S.base.toExcCallFacts hC2 hx2 rfl ?_)
  refine wpAny_bind (wpAny_pure (wpAny_pure ?_))
  refine ⟨plainId_quiet S.base.init.plain _, codeAny_builtin S.base.initEntry ?_⟩
  refine PySem.W.exc_init_tree (cls := .ref C) (t0 := t0) (dv := none) (c2 := .none) (c3 := .none) (b4 := .bool false) hx2 (by show 1 ≤ sizeLine; rw [sizeLine_eq]; omega) fun h2 kx2 hx3 _ => ?_
  have kp2 : ∀ y o, y ≠ x → h0.get? y = some o → h2.get? y = some o := fun y o hy e => kx2 y o hy (Heap.get?_push_of_some _ (k1 _ _ e))
  have lt : ∀ {y : Addr} {o : Obj}, hp.get? y = some o → y ≠ L := fun {y o} e => by rw [← hL]; exact Nat.ne_of_lt (Heap.lt_size e)
  have xL : x ≠ L := lt hx
  have n2 : h2.Ns L (fun y => if y = b then some v else if y = a then some (.ref x) else none) := by
    obtain ⟨o, es, ep, e1', e2', r⟩ := n0
    exact ⟨o, es, ep, kp2 _ _ (Ne.symm xL) e1', e2', r⟩
  have X2 : K.In h2 := by
    intro y o e
    refine kp2 _ _ (fun z => ?_) (X0 _ _ e)
    rw [z, hKx] at e
    cases e
  show PySem.wpAt _ _ _ _ _ _ _
  refine PySem.ks_wpAt_execs_cons (PySem.ks_wpAt_Assign_Attr (PySem.wpAt_of_wpAny ?_) (hsw2 env))
  refine wpAny_Name (wpAny_loadName_local (m := fun y => if y = b then some v else if y = a then some (.ref x) else none) eK (by rw [Env.kindOf, eS]; exact T.lb) (by rw [eL]; exact n2) (by rw [if_pos rfl]) ?_) T.db
  refine wpAny_Name (wpAny_loadName_local (m := fun y => if y = b then some v else if y = a then some (.ref x) else none) eK (by rw [Env.kindOf, eS]; exact T.la) (by rw [eL]; exact n2) (by rw [if_neg hab, if_pos rfl]) ?_) T.da
  generalize hT1 : (h1.push (PySem.W.kxs_mw initId x)).objs.size = T1 at hx3
  have hI3 : PySem.W.InstAt h2 x (PySem.W.excObj C T1 none .none) C none := ⟨hx3, rfl, rfl, trivial⟩
  refine PySem.W.set_plain X2 hI3 S.sa ?_
  refine PySem.W.osa_openX S.store X2 hI3 S.over S.tk (fun bb => ?_)
  have hcls : PySem.W.Looks (model P w) h2 (classData C) cd := PySem.W.looks_clsIn X2 hcd
  have hdct : cd.hasDict = true := by
    have h := S.dct
    unfold PySem.W.hasDictIn at h
    rw [hcd] at h
    exact h
  have hxs : x ≠ h2.objs.size := Nat.ne_of_lt (Heap.lt_size hx3)
  have hLs : L < h2.objs.size := by
    obtain ⟨o, _, _, e, _⟩ := n2
    exact Heap.lt_size e
  show wpAny _ _ (Builtin.ObjectAttr.storeInOwnDict (.ref x) (.ref C) (.str f _) f v bb) _ _ _
  refine store_own X2 hx3 hcd hdct fun h3 tk3 dx k3 l3 ne3 e3 m3 => ?_
  show PySem.wpAt _ _ _ _ _ _ _
  refine PySem.wpAt_of_wpAny (wpAny_execs_nil ?_)
  exact hq h3 tk3 dx T1 (fun y o hy e => k3 y o hy (kp2 y o hy (kp _ _ e))) (by rw [hL]; exact Nat.le_of_lt (Nat.lt_of_lt_of_le hLs l3)) ne3 e3 m3
end
section
variable {X : Cx} {B newId initId : String} {bmB : List Value} {C fI : Addr} {st : Stmt} {a b f qual x : Str} {e : Expr} {ta : TE} {p pos : Pos}
/-- C(e), C such a class -/
theorem pmk_sup (S : SupF X.prog X.K X.mg B newId initId bmB C fI st a b f qual) (T : SupB st a b f) (hr : Room 1 X.A) (hg : Gl X x) (gC : X.mg x = some (.ref C)) (he : PE X e ta) (hdb : (x == ("__debug__" : Str)) = false := by decide)
    (na : starEach [e] X.env = (false, eval e X.env) :: starEach [] X.env := by rfl) :
    PMk X (.Call (.Name x p) [e] [] pos) (fun σ H Q => ta σ H fun y H1 => ∀ d, H1 d = none → Q (.ref C) (some d) (upd H1 d (.xd [(f, y)]))) := by
  intro pins s σ H Q I h
  refine wpAny_Call_Name_kw (ld_glob I hg gC ?_ hdb)
  refine PySem.W.callWith_K (h₀ := X.base) I.ok.mod.kin S.kC (one_arg he I h (fun v s1 y H1 I1 ry q => ⟨I1.kIn, ?_⟩) na) na rfl
  show wpAny _ _ (call (.ref C) [v]) _ _ _
  obtain ⟨hp, g, dr, tk, os⟩ := s1
  obtain ⟨nm, N', qn, bs, bm, hdct, sn, sub, ab, col, dd, k0, k1, k2, k3, k5, hC, hT⟩ := PySem.W.excInit_of I1.kIn S.ex
  have hsz : hp.objs.size ≤ hp.objs.size + 1 := Nat.le_succ _
  have kk : ∀ b o, hp.get? b = some o → ((hp.push (PySem.W.kdv_tup [v])).push (PySem.HandSPX.excO C hp.objs.size)).get? b = some o := fun b o e => Heap.get?_push_of_some _ (Heap.get?_push_of_some _ e)
  have hget : ((hp.push (PySem.W.kdv_tup [v])).push (PySem.HandSPX.excO C hp.objs.size)).get? (hp.objs.size + 1) = some (PySem.HandSPX.excO C hp.objs.size) := by heap_get
  have fresh : ∀ {b : Addr} {o : Obj}, hp.get? b = some o → b ≠ hp.objs.size + 1 := fun {b o} e => Nat.ne_of_lt (Nat.lt_succ_of_lt (Heap.lt_size e))
  have hKx : X.K.lookup (hp.objs.size + 1) = none := by
    cases q : X.K.lookup (hp.objs.size + 1) with
    | none => rfl
    | some o => exact absurd rfl (fresh (I1.kIn _ _ q))
  obtain ⟨mb, hb1, hb2⟩ := I1.mod.blt
  refine wpAny_call (PySem.HandSPX.call_own S.base hT hC (PySem.W.looks_findIn I1.kIn S.init) (fun self => PySem.W.bind_fn I1.kIn self S.tyI) (by show 1 ≤ sizeLine; rw [sizeLine_eq]; omega)
    (sup_init S T (I1.kIn.keeps kk) (I1.nolimit.keeps kk) ((I1.mod.glob.keeps I1.bk).keeps kk) ((hb1.keeps I1.bk).keeps kk) hb2 (hr.make C [v] []).depth hget hKx fun h' tk' dx t1 k' l' ne' e' m' => ?_))
  have hdx : hp.objs.size ≤ dx := by
    have e1 : ((hp.push (PySem.W.kdv_tup [v])).push (PySem.HandSPX.excO C hp.objs.size)).objs.size = hp.objs.size + 2 := by rw [Heap.size_push, Heap.size_push]
    rw [e1] at l'
    omega
  obtain ⟨G, g1', g2'⟩ := restrict h' fun b => decide (b ≠ hp.objs.size + 1)
  have gk : ∀ b, b ≠ hp.objs.size + 1 → G.get? b = h'.get? b := fun b hb => g1' b (decide_eq_true hb)
  have ge : G.get? (hp.objs.size + 1) = none := g2' _ (by simp)
  have J := I1.laid (t' := tk') (a := dx) (o := .xd [(f, y)]) (h' := G) (fun b o eb => by rw [gk b (fresh eb)]; exact k' b o (fresh eb) (kk b o eb)) hdx
    ⟨_, m'.at fun o eo => (gk dx ne').trans eo, fun y' => by
      by_cases c : y' = f
      · subst c
        rw [if_pos rfl]
        have e1 : List.lookup y' [(y', y)] = some y := by simp [List.lookup]
        rw [e1]; exact ry
      · rw [if_neg c]
        have e1 : (y' == f) = false := by simpa using c
        have e2 : List.lookup y' [(f, y)] = none := by simp [List.lookup, e1]
        rw [e2]; trivial⟩
  refine ⟨rfl, hp.objs.size + 1, _, _, ⟨G, g, dr, tk', os⟩, _, .ref C, some dx, rfl, J, fun b o eb => ?_, ge, e', ⟨rfl, rfl⟩, rfl, rfl, ?_, rfl, ?_, raises_own S.subE S.tyC, q dx (I1.hok.fresh hdx)⟩
  · have hb : b ≠ hp.objs.size + 1 := fun z => by rw [z, ge] at eb; cases eb
    rw [← gk b hb]; exact eb
  · rw [upd_ne ne'.symm]; exact I1.hok.fresh hsz
  · exact I1.bare
end
end Fs
namespace Fs
open PySem PySem.Spec PyProof.Rows L2 SlX RZ
/-! ### a thing just made is locked for good -/
def tFrz (t : TE) : TE := fun σ H Q => t σ H fun v H1 => ∃ d u, v = .ref d ∧ H1 d = some u ∧ Mut (some u) ∧ ∀ od, Q v (upd H1 d (.frz od u))
theorem pe_frz {X : Cx} {e : Expr} {t : TE} (h : PE X e t) : PE X e (tFrz t) := by
  refine ⟨fun pins s σ H Q I hw => ?_⟩
  refine thn (h.run pins s σ H _ I hw) fun v s1 ⟨x, H1, I1, r, d, u, ex, hd, mu, q⟩ => ?_
  obtain ⟨od, I2⟩ := I1.lock hd mu
  exact ⟨x, _, I2, r, q od⟩
/-! ### promises of the program's defs: they run where a repr is on its way, too -/
structure CalP (P : Program) (w : World) (K : PySem.W.Frag) (mg : Str → Option Value) (base : Heap) (CX : CXT) (k : Nat) (x : Str) (sp : Sp) : Prop where
  ex : ∃ f : Addr, FnR P w K mg base CX k f sp ∧ mg x = some (.ref f) ∧ PySem.W.keepIn K (.ref f) = true
section
variable {P : Program} {w : World} {K : PySem.W.Frag} {mg : Str → Option Value} {base : Heap}
theorem fnr_of {CX : CXT} {k : Nat} {f : Addr} {fd : FuncData} {ps : List Str} {sp : Sp} (F : FnOk P w K mg base CX k f fd ps sp) (b : Binds K fd ps []) : FnR P w K mg base CX k f sp :=
  (F.raw (ds := []) (dvs := []) b .nil).imp fun vs H Q E h => by rw [List.append_nil]; exact h
/-- a def that raises nothing -/
theorem Df.calP {x : Str} {st : Stmt} {N ps : List Str} {k : Nat} {sp : Sp} (D : Df K mg x st ps) (S : FnScope N ps (defScope st)) (lens : ∀ vs H Q E, sp vs H Q E → vs.length = ps.length)
    (body : ∀ (f : Addr) (cdv : Value) (A : Around) (outer : List Env) (s : Shared) (H : Hp) (vs : List V) (Q : VK) (E : XK), Room k (A.deeper (envOfC x (defScope st) s.heap.objs.size f cdv)) → sp vs H Q E →
      ∃ t, PSs (cxOf CX0 P w K mg base N x (defScope st) f cdv A outer s H E).nox (defBody st) t ∧ t { nx := fun _ H' => Q .non H', rt := Q } (start N vs) H) : CalP P w K mg base CX0 (k + 1) x sp := by
  obtain ⟨f, fd, F, m, b⟩ := D.ex
  exact ⟨f, fnr_of (F.ok S lens fun cdv A outer s H vs Q E hr h => body f cdv A outer s H vs Q E hr h) b, m, F.kp⟩
/-- a def that may raise -/
theorem Df.calX {x : Str} {st : Stmt} {N ps : List Str} {k : Nat} {sp : Sp} (D : Df K mg x st ps) (S : FnScope N ps (defScope st)) (lens : ∀ vs H Q E, sp vs H Q E → vs.length = ps.length)
    (body : ∀ (f : Addr) (cdv : Value) (A : Around) (outer : List Env) (s : Shared) (H : Hp) (vs : List V) (Q : VK) (E : XK), Room k (A.deeper (envOfC x (defScope st) s.heap.objs.size f cdv)) → sp vs H Q E →
      ∃ t, PSs (cxOf (L2.CX P w) P w K mg base N x (defScope st) f cdv A outer s H E) (defBody st) t ∧ t { nx := fun _ H' => Q .non H', rt := Q } (start N vs) H) : CalP P w K mg base (L2.CX P w) (k + 1) x sp := by
  obtain ⟨f, fd, F, m, b⟩ := D.ex
  exact ⟨f, fnr_of (F.okX S lens fun cdv A outer s H vs Q E hr h => body f cdv A outer s H vs Q E hr h) b, m, F.kp⟩
end
section
variable {X : Cx} {CX : CXT} {k j : Nat} {x : Str} {sp : Sp} {E : XK} {p pos : Pos} {e : Expr} {es : List Expr} {t : TA}
/-- f(e, ..), what it lets out is passed on -/
theorem pcX (c : CalP X.prog X.w X.K X.mg X.base CX k x sp) (hr : Room j X.A) (hx : Passes CX X E) (ha : PA X (e :: es) t) (hk : k ≤ j := by decide) (hg : Gl X x := by rfl)
    (hdb : (x == ("__debug__" : Str)) = false := by decide) (he : starEach (e :: es) X.env = (false, eval e X.env) :: starEach es X.env := by rfl) (hpl : (backTo pos (starEach es X.env)).any (·.1) = false := by rfl) :
    PE X (.Call (.Name x p) (e :: es) [] pos) (tCallS sp (fun _ => E) t) := by
  obtain ⟨f, F, hm, kp⟩ := c.ex
  refine ⟨fun pins s σ H Q I h => ?_⟩
  refine wpAny_Call_Name_kw (ld_glob I hg hm ?_ hdb)
  refine PySem.W.callWith_K (h₀ := X.base) I.ok.mod.kin kp (thn (ha.run pos pins s σ H _ I h) fun us s1 ⟨vs, H1, I1, r, q⟩ => ⟨I1.kIn, ?_⟩) he hpl
  exact wpAny_call (run_fnR F (hr.mono hk) hx I1 r q)
/-- .. of a def that raises nothing -/
theorem pcP (c : CalP X.prog X.w X.K X.mg X.base CX0 k x sp) (hr : Room j X.A) (ha : PA X (e :: es) t) (hk : k ≤ j := by decide) (hg : Gl X x := by rfl)
    (hdb : (x == ("__debug__" : Str)) = false := by decide) (he : starEach (e :: es) X.env = (false, eval e X.env) :: starEach es X.env := by rfl) (hpl : (backTo pos (starEach es X.env)).any (·.1) = false := by rfl) :
    PE X (.Call (.Name x p) (e :: es) [] pos) (tCallS sp (fun _ => E0) t) := pcX c hr pass0 ha hk hg hdb he hpl
end
/-! ### rows, states, rules -/
abbrev Row := List (Nat × Nat)
abbrev Sts := List (Row × Bool)
def kRow (r : Row) : List (Key × V) := r.map fun p => (.inr ⟨#[p.1]⟩, .int (p.2 : Nat))
def RowAt (H : Hp) (d : Addr) (r : Row) : Prop := H d = some (.dK (kRow r))
def StAtt (H : Hp) (a : Addr) (p : Row × Bool) : Prop := ∃ d, H a = some (.tup [.ref d, .bl p.2]) ∧ RowAt H d p.1
def StsT (H : Hp) (t : Addr) (s : Sts) : Prop := ∃ as : List Addr, H t = some (.tup (as.map V.ref)) ∧ Paired (StAtt H) as s
/-- a rule's slots: the goods, the moves, the signs -/
def RuAt (H : Hp) (a C : Addr) (sg : List Nat) (s : Sts) : Prop := ∃ (dx lg lm : Addr) (ds : List Addr), Slt H a C dx [some (.ref lg), some (.ref lm), some (.str (SX.S sg))] ∧ H lg = some (.lst (s.map fun p => .bl p.2)) ∧ H lm = some (.lst (ds.map V.ref)) ∧ Paired (fun d p => RowAt H d p.1) ds s
structure RowOk (sg : List Nat) (n : Nat) (r : Row) : Prop where
  sub : (r.map (·.1)).Sublist sg
  lt : ∀ p ∈ r, p.2 < n
structure StsOk (sg : List Nat) (s : Sts) : Prop where
  pos : 1 ≤ s.length
  most : s.length ≤ 6
  rows : ∀ p ∈ s, RowOk sg s.length p.1
theorem StAtt.le {H H' : Hp} (e : Same H H') {a : Addr} {p : Row × Bool} (h : StAtt H a p) : StAtt H' a p := by
  obtain ⟨d, h1, h2⟩ := h
  exact ⟨d, e _ _ h1, e _ _ h2⟩
theorem StsT.le {H H' : Hp} (e : Same H H') {t : Addr} {s : Sts} (h : StsT H t s) : StsT H' t s := by
  obtain ⟨as, h1, h2⟩ := h
  exact ⟨as, e _ _ h1, L2.Paired.mapP h2 fun _ _ => StAtt.le e⟩
theorem RuAt.le {H H' : Hp} (e : Same H H') {a C : Addr} {sg : List Nat} {s : Sts} (h : RuAt H a C sg s) : RuAt H' a C sg s := by
  obtain ⟨dx, lg, lm, ds, h1, h2, h3, h4⟩ := h
  exact ⟨dx, lg, lm, ds, slt_mono h1 e, e _ _ h2, e _ _ h3, L2.Paired.mapP h4 fun _ _ h => e _ _ h⟩
/-- the row's entry -/
def lk (r : Row) (c : Nat) : Option Nat := (r.find? fun p => decide (p.1 = c)).map (·.2)
theorem key_ne {a b : Nat} (h : a ≠ b) : (Sum.inr ⟨#[a]⟩ : Key) ≠ .inr ⟨#[b]⟩ := fun q => by
  injection q with q
  exact h (by simpa using congrArg cps q)
theorem valV_row (c : Nat) : ∀ r : Row, valV (kRow r) (.inr ⟨#[c]⟩ : Key) = (lk r c).map fun n => V.int (n : Nat)
  | [] => rfl
  | (a, n) :: r => by
    by_cases h : a = c
    · subst h
      have h1 : valV (kRow ((a, n) :: r)) (.inr ⟨#[a]⟩ : Key) = some (.int (n : Nat)) := valV_pos rfl
      rw [h1]
      simp [lk]
    · have h1 : valV (kRow ((a, n) :: r)) (.inr ⟨#[c]⟩ : Key) = valV (kRow r) (.inr ⟨#[c]⟩ : Key) := valV_neg (key_ne h)
      rw [h1, valV_row c r]
      simp [lk, h]
/-- the constants of the module -/
structure Gs (mg : Str → Option Value) : Prop where
  g_MAX_SIGNS : ∃ t, mg "MAX_SIGNS" = some (.int 4 t)
  g_GREATEST : ∃ t, mg "GREATEST" = some (.int (10 ^ 60) t)
  g_LETTERS : ∃ t, mg "LETTERS" = some (.str "abcdefghijklmnopqrstuvwxyz" t)
  g_MAX_STATES : ∃ t, mg "MAX_STATES" = some (.int 6 t)
  g_DEAD : ∃ t, mg "DEAD" = some (.int (-1) t)
end Fs
namespace Fs
open PySem PySem.Spec PyProof.Rows L2 SlX RZ
theorem hu65 {A : Around} {k : Nat} (hr : Room k A) : A.units + 65 < cLine := by have := hr.un; omega
theorem lt_S1 (c d : Nat) : decide ((⟨#[c]⟩ : Str).cps.toList < (⟨#[d]⟩ : Str).cps.toList) = decide (c < d) := by
  show decide (([c] : List Nat) < [d]) = _
  simp [List.cons_lt_cons_iff]
theorem asc_zip : ∀ l : List Nat, ((l.zip (l.drop 1)).map fun p => decide (p.1 < p.2)).all id = ascL l
  | [] => rfl
  | [_] => rfl
  | a :: b :: r => by
    have := asc_zip (b :: r)
    show (decide (a < b) && (((b :: r).zip r).map fun p => decide (p.1 < p.2)).all id) = (decide (a < b) && ascL (b :: r))
    rw [← this]; rfl
theorem cps_cut1 (z : Str) : cps (cutS z (some 1) none) = (cps z).drop 1 := by
  show (((z.cps.toList.drop (HT.sIx z.length 0 (some 1))).take (HT.sIx z.length z.length none - HT.sIx z.length 0 (some 1))).toArray).toList = z.cps.toList.drop 1
  have e1 : HT.sIx z.length 0 (some 1) = min 1 z.length := HT.sIx_nat z.length 0 1
  have e2 : HT.sIx z.length z.length none = z.length := HT.sIx_none ..
  rw [e1, e2]
  have e3 : z.length = z.cps.toList.length := len_cps z
  by_cases c : 1 ≤ z.length
  · rw [Nat.min_eq_left c]
    show (((z.cps.toList.drop 1).take (z.length - 1)) : List Nat) = _
    rw [List.take_of_length_le (by rw [List.length_drop, ← e3]; exact Nat.le_refl _)]
  · have : z.cps.toList = [] := List.eq_nil_of_length_eq_zero (by omega)
    rw [this]; simp
section
variable {P : Program} {w : World} {K : PySem.W.Frag} {mg : Str → Option Value} {base : Heap}
/-- a def with a last default None, called without it -/
theorem DfD.calP {x : Str} {st : Stmt} {N ps : List Str} {k : Nat} {sp sp2 : Sp} (D : DfD K mg x st ps) (S : FnScope N ps (defScope st)) (lens : ∀ vs H Q E, sp vs H Q E → vs.length = ps.length)
    (body : ∀ (f : Addr) (cdv : Value) (A : Around) (outer : List Env) (s : Shared) (H : Hp) (vs : List V) (Q : VK) (E : XK), Room k (A.deeper (envOfC x (defScope st) s.heap.objs.size f cdv)) → sp vs H Q E →
      ∃ t, PSs (cxOf CX0 P w K mg base N x (defScope st) f cdv A outer s H E).nox (defBody st) t ∧ t { nx := fun _ H' => Q .non H', rt := Q } (start N vs) H) (imp : ∀ vs H Q E, sp2 vs H Q E → sp (vs ++ [.non]) H Q E) : CalP P w K mg base CX0 (k + 1) x sp2 := by
  obtain ⟨f, fd, F, m, b0, b1⟩ := D.ex
  have G : FnOk P w K mg base CX0 (k + 1) f fd ps sp := F.ok S lens fun cdv A outer s H vs Q E hr want => by
    obtain ⟨t, h, q⟩ := body f cdv A outer s H vs Q E hr want
    exact ⟨t, h.nox, q⟩
  exact ⟨f, (G.raw (ds := [Value.none]) (dvs := [.non]) b1 (.cons rfl .nil)).imp imp, m, F.kp⟩
def spInt : Sp := fun vs H Q _ => ∃ n : Nat, vs = [.int (n : Nat)] ∧ n < 100 ∧ Q (.bl true) H
abbrev s_p_int : Stmt := top 10
theorem sc_p_int : FnScope ["value"] ["value"] (defScope s_p_int) := ⟨rfl, rfl, rfl, by decide +kernel, rfl, by decide +kernel, by decide +kernel⟩
theorem cal_p_int (T : Bs mg) (zb : mg "bool" = none) (G : Gs mg) (D : Df K mg "is_integer" s_p_int ["value"]) : CalP P w K mg base CX0 1 "is_integer" spInt := by
  refine D.calP sc_p_int (fun vs H Q E h => ?_) (fun f cdv A outer s H vs Q E hr h => ?_)
  · obtain ⟨n, rfl, _⟩ := h
    rfl
  · obtain ⟨n, rfl, hn, k⟩ := h
    refine ⟨_, pss_one (ps_ret (pe_and (pb call_isi T.z_isinstance (pa_cons (pv 0) (pa_cons (pe_bltn (v := .ty "int") (u := .type "int") rfl T.z_int (by decide +kernel) rfl) pa_nil))) (pe_and (pe_not (pb call_isi T.z_isinstance (pa_cons (pv 0) (pa_cons (pe_bltn (v := .ty "bool") (u := .type "bool") rfl zb (by decide +kernel) rfl) pa_nil)))) (pe_one (pe_chain op_lt op_lt (pe_un un_neg (pe_gint G.g_GREATEST)) (pv 0) (pe_gint G.g_GREATEST)))))), ?_⟩
    refine ⟨_, rfl, _, .ty "int", _, _, _, rfl, .ty "int", .base (.int _), kit_ty (by decide +kernel : kitB "int" "int" = some true), ?_⟩
    refine ⟨_, rfl, iteT ?_⟩
    refine ⟨_, rfl, _, .ty "bool", _, _, _, rfl, .ty "bool", .base (.int _), kit_ty (by decide +kernel : kitB "int" "bool" = some false), ?_⟩
    refine ⟨_, rfl, _, rfl, iteT ?_⟩
    refine ⟨_, rfl, _, rfl, _, _, rfl, rfl, ?_⟩
    have big : (100 : Int) < 10 ^ 60 := by decide +kernel
    have c1 : decide ((-10 ^ 60 : Int) < (n : Int)) = true := decide_eq_true (by omega)
    have c2 : decide ((n : Int) < (10 ^ 60 : Int)) = true := decide_eq_true (by omega)
    refine ⟨_, rfl, ?_⟩
    rw [c1]
    refine iteT ⟨_, _, rfl, rfl, ?_⟩
    show Q (.bl (decide ((n : Int) < 10 ^ 60))) H
    rw [c2]
    exact k
abbrev s_p_signs : Stmt := top 11
theorem sc_p_signs : FnScope ["value", "sign", "one", "other"] ["value"] (defScope s_p_signs) := ⟨rfl, rfl, rfl, by decide +kernel, rfl, by decide +kernel, by decide +kernel⟩
theorem cal_p_signs (T : Bs mg) (G : Gs mg) (D : Df K mg "is_signs" s_p_signs ["value"]) : CalP P w K mg base CX0 1 "is_signs" (spIs isSignsD) := by
  refine D.calP sc_p_signs (fun vs H Q E h => ?_) (fun f cdv A outer s H vs Q E hr h => ?_)
  · obtain ⟨v, d, rfl, _⟩ := h
    rfl
  · obtain ⟨v, d, rfl, hd, k⟩ := h
    refine ⟨_, pss_cons (ps_if (PW.pt (pw_or (pt_not (pt_val (pb call_isi T.z_isinstance (pa_cons (pv 0) (pa_cons (pe_bltn (v := .ty "str") (u := .type "str") rfl T.z_str (by decide +kernel) rfl) pa_nil))))) (pw_or (pt_not (pt_chain op_le op_le pe_int (pb call_len3 T.z_len (pa_cons (pv 0) pa_nil)) (pe_gint G.g_MAX_SIGNS))) (pw_or1 (pt_not (pt_val (pb (cr_all rfl) T.z_all (pa_cons (pe_lc (own := [("sign", 1)]) (te := (tOp qInS (tVar 1) (tC (.str "abcdefghijklmnopqrstuvwxyz")))) rfl sc_p_signs.nd (pi_str (pv 0)) (blkOk_by (N := ["value", "sign", "one", "other"]) (sc := defScope s_p_signs) (by decide +kernel)) (fun _ _ _ _ _ => (pg_name (i := 1) sc_p_signs.nd rfl (Or.inl rfl))) (fun _ _ _ _ _ => pts_nil) (fun _ _ _ _ _ => (pe_cmpR op_in_sign (pv 1) (pe_gstr G.g_LETTERS) (by rfl)))) pa_nil))))))))
        (pss_one (ps_ret pe_bl))
        pss_nil)
      (pss_one (ps_ret (pb (cr_all rfl) T.z_all (pa_cons (pe_lc (own := [("one", 2), ("other", 3)]) (te := (tOp qLtS (tVar 2) (tVar 3))) (g := gTup K 2 (gCons (gName 2) (gCons (gName 3) gNil))) rfl sc_p_signs.nd (pi_zipS T.z_zip (pa_cons (pv 0) (pa_cons (pe_slice sl_str (pv 0) (po_some pe_int) po_none) pa_nil))) (blkOk_by (N := ["value", "sign", "one", "other"]) (sc := defScope s_p_signs) (by decide +kernel)) (fun _ _ _ _ _ => (pg_tup rfl (pgs_cons (pg_name (i := 2) sc_p_signs.nd rfl (Or.inl rfl)) (pgs_cons (pg_name (i := 3) sc_p_signs.nd rfl (Or.inl rfl)) pgs_nil)))) (fun _ _ _ _ _ => pts_nil) (fun _ _ _ _ _ => (pe_cmpR op_lt_str (pv 2) (pv 3) (nomark _)))) pa_nil)))), ?_⟩
    obtain ⟨n, ty, h1, h2⟩ := tyx_of (K := K) hd
    refine ⟨_, rfl, v, .ty "str", _, _, _, rfl, .ty "str", ty, kit_ty h1, _, rfl, ?_⟩
    cases hd with
    | str z hz =>
      refine iteF ?_
      have hl : z.length ≤ 100000 := by have := hz.len; omega
      have hlen : ((cps z).map S1).length = z.length := by rw [List.length_map, ← len_cps]
      refine ⟨_, rfl, _, _, rfl, Of3.str hl, _, _, rfl, rfl, _, rfl, ?_⟩
      rw [hlen]
      have bad : ∀ H', Same H H' → signsL (cps z) = false → Q (.bl false) H' := fun H' e q => by
        have := k H' e
        rw [show isSignsD (.str z) = signsL (cps z) from rfl, q] at this
        exact this
      have nl : signsL (cps z) = (decide (1 ≤ z.length) && decide (z.length ≤ 4) && lowL (cps z) && ascL (cps z)) := by unfold signsL; rw [len_cps]
      refine ite2 (fun c1 => ?_) (fun c1 => ?_)
      · have c1 : (1 : Int) ≤ z.length := of_decide_eq_true c1
        refine ⟨_, _, rfl, rfl, _, rfl, ?_⟩
        refine ite2 (fun c2 => ?_) (fun c2 => ?_)
        · have c2 : ¬ (z.length : Int) ≤ 4 := by simpa using c2
          refine iteT ?_
          exact bad H (Same.refl H) (by rw [nl, decide_eq_false (show ¬ z.length ≤ 4 by omega)]; simp)
        · have c2 : (z.length : Int) ≤ 4 := by simpa using c2
          refine ⟨_, rfl, z, rfl, fun D hD => ?_⟩
          refine lc_it walk_str (fun i H1 => Same H H1 ∧ H1 D = some (.lst (((cps z).take i).map fun c => V.bl (decide (c ∈ cps LET))))) ?_ ?_ ?_ ?_
          · exact ⟨same_upd (Same.refl H) hD, upd_same⟩
          · exact fun _ _ _ _ => trivial
          · rintro i x H1 H2 hi ⟨e1, e2⟩ ⟨rfl, c, hc, rfl⟩
            have hc' : (cps z)[i]? = some c := by rw [← Array.getElem?_toList] at hc; exact hc
            refine ⟨rfl, _, rfl, c, LET, rfl, rfl, _, e2, ?_, same_mut e1 hD, ?_⟩
            · have h8 : i < z.length := hi
              have h9 : ((cps z).take i).length ≤ i := List.length_take_le ..
              rw [List.length_map, sizeLine_eq]; omega
            · rw [upd_same, take_snoc hc', List.map_append]; rfl
          · rintro H1 ⟨e1, e2⟩
            refine ⟨D, (cps z).map fun c => decide (c ∈ cps LET), rfl, SqL.of ?_, _, rfl, ?_⟩
            · rw [e2, List.take_of_length_le (by rw [← len_cps]; exact Nat.le_refl _), List.map_map]; rfl
            · rw [all_let]
              refine ite2 (fun c3 => ?_) (fun c3 => ?_)
              · have c3 : lowL (cps z) = false := by simpa using c3
                exact bad H1 e1 (by rw [nl, c3]; simp)
              · have c3 : lowL (cps z) = true := by simpa using c3
                refine ⟨_, rfl, _, rfl, _, rfl, z, rfl, by rw [sizeLine_eq]; omega, _, _, rfl, fun D2 hD2 => ?_⟩
                have hcut := cps_cut1 z
                generalize cutS z (some 1) none = z1 at hcut
                have hl1 : z1.length = z.length - 1 := by rw [len_cps, len_cps, hcut, List.length_drop]
                refine lc_it (walk_zipS (n := z.length - 1) (by show _ = min z.length z1.length; omega)) (fun i H2 => Same H H2 ∧ H2 D2 = some (.lst ((((cps z).zip ((cps z).drop 1)).take i).map fun p => V.bl (decide (p.1 < p.2))))) ?_ ?_ ?_ ?_
                · exact ⟨same_upd e1 hD2, upd_same⟩
                · exact fun _ _ _ _ => trivial
                · rintro i x H2 H3 hi ⟨g1, g2⟩ ⟨t, c, d, rfl, ht, rfl, hc, hd⟩
                  have hc' : (cps z)[i]? = some c := by rw [← Array.getElem?_toList] at hc; exact hc
                  have hd' : ((cps z).drop 1)[i]? = some d := by rw [← Array.getElem?_toList] at hd; rw [← hcut]; exact hd
                  have hcd : ((cps z).zip ((cps z).drop 1))[i]? = some (c, d) := List.getElem?_zip_eq_some.mpr ⟨hc', hd'⟩
                  have hD2t : D2 ≠ t := ne_of_none g2 ht
                  refine ⟨t, _, rfl, SqT.of upd_same, rfl, _, _, rfl, _, _, rfl, rfl, ?_⟩
                  refine ⟨rfl, _, rfl, _, rfl, ⟨#[c]⟩, ⟨#[d]⟩, rfl, rfl, _, by rw [upd_ne hD2t]; exact g2, ?_, same_mut (same_upd g1 ht) (e1.free hD2), ?_⟩
                  · have h9 : (((cps z).zip ((cps z).drop 1)).take i).length ≤ i := List.length_take_le ..
                    rw [List.length_map, sizeLine_eq]; omega
                  · rw [upd_same, take_snoc hcd, List.map_append, lt_S1]; rfl
                · rintro H2 ⟨g1, g2⟩
                  refine ⟨D2, ((cps z).zip ((cps z).drop 1)).map fun p => decide (p.1 < p.2), rfl, SqL.of ?_, ?_⟩
                  · rw [g2, List.take_of_length_le (by rw [List.length_zip, List.length_drop, ← len_cps]; omega), List.map_map]; rfl
                  · rw [asc_zip]
                    have := k H2 g1
                    have e : isSignsD (.str z) = ascL (cps z) := by
                      show signsL (cps z) = _
                      rw [nl, decide_eq_true (show 1 ≤ z.length by omega), decide_eq_true (show z.length ≤ 4 by omega), c3]
                      simp
                    rw [e] at this
                    exact this
      · have c1 : ¬ (1 : Int) ≤ z.length := fun q => c1 (decide_eq_true q)
        refine ⟨_, rfl, iteT (iteT ?_)⟩
        exact bad H (Same.refl H) (by rw [nl, decide_eq_false (show ¬ 1 ≤ z.length by omega)]; simp)
    | _ => exact iteT (k _ (Same.refl H))
def spWord : Sp := fun vs H Q _ => ∃ (sg : Str) (v : V) (d : PyData), vs = [.str sg, v, .non] ∧ Dx H v d ∧ ∀ H', Same H H' → Q (.bl (isWordD sg d)) H'
/-- with its last default -/
def spWord2 : Sp := fun vs H Q _ => ∃ (sg : Str) (v : V) (d : PyData), vs = [.str sg, v] ∧ Dx H v d ∧ ∀ H', Same H H' → Q (.bl (isWordD sg d)) H'
abbrev s_p_word : Stmt := top 12
theorem sc_p_word : FnScope ["signs", "value", "most", "sign"] ["signs", "value", "most"] (defScope s_p_word) := ⟨rfl, rfl, rfl, by decide +kernel, rfl, by decide +kernel, by decide +kernel⟩
theorem cal_p_word (T : Bs mg) (D : DfD K mg "is_word_of" s_p_word ["signs", "value", "most"]) : CalP P w K mg base CX0 1 "is_word_of" spWord2 := by
  refine D.calP sc_p_word (sp := spWord) (fun vs H Q E h => ?_) (fun f cdv A outer s H vs Q E hr h => ?_) fun vs H Q E h => ?_
  · obtain ⟨sg, v, d, rfl, _⟩ := h
    rfl
  · obtain ⟨sg, v, d, rfl, hd, k⟩ := h
    refine ⟨_, pss_cons (ps_if (PW.pt (pw_or (pt_not (pt_val (pb call_isi T.z_isinstance (pa_cons (pv 1) (pa_cons (pe_bltn (v := .ty "str") (u := .type "str") rfl T.z_str (by decide +kernel) rfl) pa_nil))))) (pw_or1 (PW.pt (pw_and (pt_cmpR op_notN (pv 2) pe_non (nomark _)) (pw_and1 (pt_cmpR op_gt (pb call_len3 T.z_len (pa_cons (pv 1) pa_nil)) (pv 2) (nomark _))))))))
        (pss_one (ps_ret pe_bl))
        pss_nil)
      (pss_one (ps_ret (pb (cr_all rfl) T.z_all (pa_cons (pe_lc (own := [("sign", 3)]) (te := (tOp qInS (tVar 3) (tVar 0))) rfl sc_p_word.nd (pi_str (pv 1)) (blkOk_by (N := ["signs", "value", "most", "sign"]) (sc := defScope s_p_word) (by decide +kernel)) (fun _ _ _ _ _ => (pg_name (i := 3) sc_p_word.nd rfl (Or.inl rfl))) (fun _ _ _ _ _ => pts_nil) (fun _ _ _ _ _ => (pe_cmpR op_in_sign (pv 3) (pv 0) (by rfl)))) pa_nil)))), ?_⟩
    obtain ⟨n, ty, h1, _⟩ := tyx_of (K := K) hd
    refine ⟨_, rfl, v, .ty "str", _, _, _, rfl, .ty "str", ty, kit_ty h1, _, rfl, ?_⟩
    cases hd with
    | str z hz =>
      refine iteF ?_
      refine ⟨_, rfl, rfl, _, rfl, ?_⟩
      refine iteF (iteF ?_)
      refine ⟨_, rfl, z, rfl, fun D hD => ?_⟩
      refine lc_it walk_str (fun i H1 => Same H H1 ∧ H1 D = some (.lst (((cps z).take i).map fun c => V.bl (decide (c ∈ cps sg))))) ?_ ?_ ?_ ?_
      · exact ⟨same_upd (Same.refl H) hD, upd_same⟩
      · exact fun _ _ _ _ => trivial
      · rintro i x H1 H2 hi ⟨e1, e2⟩ ⟨rfl, c, hc, rfl⟩
        have hc' : (cps z)[i]? = some c := by rw [← Array.getElem?_toList] at hc; exact hc
        refine ⟨rfl, _, rfl, _, rfl, c, sg, rfl, rfl, _, e2, ?_, same_mut e1 hD, ?_⟩
        · have h8 : i < z.length := hi
          have h9 : ((cps z).take i).length ≤ i := List.length_take_le ..
          have := hz.len
          rw [List.length_map, sizeLine_eq]; omega
        · rw [upd_same, take_snoc hc', List.map_append]; rfl
      · rintro H1 ⟨e1, e2⟩
        refine ⟨D, (cps z).map fun c => decide (c ∈ cps sg), rfl, SqL.of ?_, ?_⟩
        · rw [e2, List.take_of_length_le (by rw [← len_cps]; exact Nat.le_refl _), List.map_map]; rfl
        · have := k H1 e1
          rw [List.all_map]
          exact this
    | _ => exact iteT (k _ (Same.refl H))
  · obtain ⟨sg, v, d, rfl, h⟩ := h
    exact ⟨sg, v, d, rfl, h⟩
/-- signs that are good -/
def spReq : Sp := fun vs H Q _ => ∃ sg : Str, vs = [.str sg] ∧ TOk sg ∧ signsL (cps sg) = true ∧ ∀ H', Same H H' → Q .non H'
abbrev s_p_req : Stmt := top 18
theorem sc_p_req : FnScope ["signs"] ["signs"] (defScope s_p_req) := ⟨rfl, rfl, rfl, by decide +kernel, rfl, by decide +kernel, by decide +kernel⟩
theorem cal_p_req (D : Df K mg "require_signs" s_p_req ["signs"]) (C_p_signs : CalP P w K mg base CX0 1 "is_signs" (spIs isSignsD)) : CalP P w K mg base CX0 2 "require_signs" spReq := by
  refine D.calP sc_p_req (fun vs H Q E h => ?_) (fun f cdv A outer s H vs Q E hr h => ?_)
  · obtain ⟨sg, rfl, _⟩ := h
    rfl
  · obtain ⟨sg, rfl, hd, hs, k⟩ := h
    refine ⟨_, pss_one (ps_if (pt_not (pt_val (pcP C_p_signs hr (pa_cons (pv 0) pa_nil))))
        (pss_one ps_never)
        pss_nil), ?_⟩
    refine ⟨_, rfl, .str sg, .str sg, rfl, .str sg hd, fun H1 e1 => ⟨_, rfl, ?_⟩⟩
    rw [show isSignsD (.str sg) = true from hs]
    exact iteF (k H1 e1)
end
end Fs
namespace Fs
open PySem PySem.Spec PyProof.Rows L2 SlX RZ
/-! ### a dict comprehension over any walk -/
theorem dc_it {J : It} {n : Nat} {G : Hp → Prop} {Y : Nat → Hp → V → Hp → Prop} (w : Walk J n G Y) {g : TG} {tt : TT} {tk tv : TE} {vs : List Nat} {σ : L2.St} {H1 : Hp} {D : Addr} {Qd : Hp → Prop} (Pv : Nat → Hp → Prop) (h0 : Pv 0 (upd H1 D (.dK []))) (hG : ∀ i H, i ≤ n → Pv i H → G H)
    (hs : ∀ i x H H', i < n → Pv i H → Y i H x H' → g x (wipe σ vs) H' fun σ2 H2 => wipe σ2 vs = wipe σ vs ∧ tt σ2 H2 fun b H3 =>
      if b = true then tk σ2 H3 fun y H4 => tv σ2 H4 fun z H5 => ∃ kvs k, y = kV k ∧ H5 D = some (.dK kvs) ∧ kvs.length < sizeLine ∧ Pv (i + 1) (upd H5 D (.dK (putK kvs k z))) else Pv (i + 1) H3) (hd : ∀ H, Pv n H → Qd H) :
    ∃ W : Nat → Nat → Hp → Prop, (∃ m, W 0 m (upd H1 D (.dK []))) ∧ ∀ i m H, W i m H →
      (J.stop i H ∧ Qd H) ∨ (J.go i H ∧ ∃ Nx : Hp → Prop, (∀ H', Nx H' → ∃ m', m' < m ∧ W (i + 1) m' H') ∧ ∀ x H', J.yld i H x H' → g x (wipe σ vs) H' fun σ2 H2 => wipe σ2 vs = wipe σ vs ∧ tt σ2 H2 fun b H3 =>
        if b = true then tk σ2 H3 fun y H4 => tv σ2 H4 fun z H5 => ∃ kvs k, y = kV k ∧ H5 D = some (.dK kvs) ∧ kvs.length < sizeLine ∧ Nx (upd H5 D (.dK (putK kvs k z))) else Nx H3) := by
  refine ⟨fun i m H => m = n - i ∧ i ≤ n ∧ Pv i H, ⟨n, by simp, Nat.zero_le _, h0⟩, ?_⟩
  rintro i m H ⟨rfl, hi, p⟩
  have q := hG i H hi p
  by_cases hlt : i < n
  · refine .inr ⟨w.goes i H hlt q, Pv (i + 1), fun H' p' => ⟨n - (i + 1), by omega, rfl, hlt, p'⟩, fun x H' y => hs i x H H' hlt p (w.yields i H x H' hlt q y)⟩
  · have e : i = n := by omega
    subst e
    exact .inl ⟨w.stops H q, hd H p⟩
theorem row_at {r : Row} {i : Nat} {x y : V} (h : (kRow r)[i]?.map (fun kv => kV kv.1) = some x) (g : (kRow r)[i]?.map Prod.snd = some y) : ∃ c n, r[i]? = some (c, n) ∧ x = S1 c ∧ y = .int (n : Nat) := by
  unfold kRow at h g
  rw [List.getElem?_map] at h g
  cases q : r[i]? with
  | none => rw [q] at h; cases h
  | some p =>
    rw [q] at h g
    exact ⟨p.1, p.2, rfl, (Option.some.inj h).symm, (Option.some.inj g).symm⟩
section
variable {P : Program} {w : World} {K : PySem.W.Frag} {mg : Str → Option Value} {base : Heap}
/-- a state with its row, for so many states -/
def spState : Sp := fun vs H Q _ => ∃ (sg : Str) (a : Addr) (m : Nat) (p : Row × Bool), vs = [.str sg, .ref a, .int (m : Nat)] ∧ StAtt H a p ∧ RowOk (cps sg) m p.1 ∧ m ≤ 6 ∧ ∀ H', Same H H' → Q (.bl true) H'
abbrev s_p_state : Stmt := top 16
theorem sc_p_state : FnScope ["signs", "value", "many", "sign", "to"] ["signs", "value", "many"] (defScope s_p_state) := ⟨rfl, rfl, rfl, by decide +kernel, rfl, by decide +kernel, by decide +kernel⟩
theorem cal_p_state (T : Bs mg) (zb : mg "bool" = none) (D : Df K mg "is_state" s_p_state ["signs", "value", "many"]) (C_p_int : CalP P w K mg base CX0 1 "is_integer" spInt) : CalP P w K mg base CX0 2 "is_state" spState := by
  refine D.calP sc_p_state (fun vs H Q E h => ?_) (fun f cdv A outer s H vs Q E hr h => ?_)
  · obtain ⟨sg, a, m, p, rfl, _⟩ := h
    rfl
  · obtain ⟨sg, a, m, ⟨r, gd⟩, rfl, ⟨d, h1, h2⟩, ok, hm, k⟩ := h
    have h1 : H a = some (.tup [.ref d, .bl gd]) := h1
    have h2 : H d = some (.dK (kRow r)) := h2
    refine ⟨_, pss_cons (ps_if (PW.pt (pw_or (pt_not (pt_val (pb call_isi T.z_isinstance (pa_cons (pv 1) (pa_cons (pe_bltn (v := .ty "tuple") (u := .type "tuple") rfl T.z_tuple (by decide +kernel) rfl) pa_nil))))) (pw_or1 (pt_cmpR op_ne (pb call_len3 T.z_len (pa_cons (pv 1) pa_nil)) pe_int (nomark _)))))
        (pss_one (ps_ret pe_bl))
        pss_nil)
      (pss_cons (ps_if (PW.pt (pw_or (pt_not (pt_val (pb call_isi T.z_isinstance (pa_cons (pe_ix ix_tup (pv 1) pe_int (fun _ _ => rfl)) (pa_cons (pe_bltn (v := .ty "dict") (u := .type "dict") rfl T.z_dict (by decide +kernel) rfl) pa_nil))))) (pw_or1 (pt_not (pt_val (pb call_isi T.z_isinstance (pa_cons (pe_ix ix_tup (pv 1) pe_int (fun _ _ => rfl)) (pa_cons (pe_bltn (v := .ty "bool") (u := .type "bool") rfl zb (by decide +kernel) rfl) pa_nil))))))))
        (pss_one (ps_ret pe_bl))
        pss_nil)
      (pss_cons (ps_lock (ps_for PassesOwn.never rfl (pi_items (pe_ix ix_tup (pv 1) pe_int (fun _ _ => rfl))) (pg_tup rfl (pgs_cons (pg_name (i := 3) sc_p_state.nd rfl (Or.inl rfl)) (pgs_cons (pg_name (i := 4) sc_p_state.nd rfl (Or.inl rfl)) pgs_nil)))
        (pss_cons (ps_if (PW.pt (pw_or (pt_not (pt_val (pb call_isi T.z_isinstance (pa_cons (pv 3) (pa_cons (pe_bltn (v := .ty "str") (u := .type "str") rfl T.z_str (by decide +kernel) rfl) pa_nil))))) (pw_or (pt_cmpR op_ne (pb call_len3 T.z_len (pa_cons (pv 3) pa_nil)) pe_int (nomark _)) (pw_or1 (pt_cmpR op_notIn_sign (pv 3) (pv 0) (by rfl))))))
          (pss_one (ps_ret pe_bl))
          pss_nil)
        (pss_one (ps_if (PW.pt (pw_or (pt_not (pt_val (pcP C_p_int hr (pa_cons (pv 4) pa_nil)))) (pw_or1 (pt_not (pt_chain op_le op_lt pe_int (pv 4) (pv 2))))))
          (pss_one (ps_ret pe_bl))
          pss_nil)))))
      (pss_one (ps_ret pe_bl)))), ?_⟩
    refine ⟨_, rfl, _, .ty "tuple", _, _, _, rfl, .ty "tuple", .base (.tup h1), kit_ty (by decide +kernel : kitB "tuple" "tuple" = some true), _, rfl, iteF ?_⟩
    refine ⟨_, rfl, _, _, rfl, Of3.tup h1, rfl, _, rfl, ?_⟩
    refine iteF ?_
    refine ⟨_, rfl, a, _, 0, .ref d, rfl, rfl, SqT.of h1, rfl, ?_⟩
    refine ⟨_, .ty "dict", _, _, _, rfl, .ty "dict", .base (.dK h2), kit_ty (by decide +kernel : kitB "dict" "dict" = some true), _, rfl, iteF ?_⟩
    refine ⟨_, rfl, a, _, 1, .bl gd, rfl, rfl, SqT.of h1, rfl, _, .ty "bool", _, _, _, rfl, .ty "bool", .base (.bl gd), kit_ty (by decide +kernel : kitB "bool" "bool" = some true), _, rfl, iteF ?_⟩
    refine ⟨d, _, h2, trivial, fun od => ?_⟩
    have nda : a ≠ d := ne_of h1 h2 (by intro z; cases z)
    generalize hHl : upd H d (.frz od (.dK (kRow r))) = Hl
    have l1 : Hl a = some (.tup [.ref d, .bl gd]) := by rw [← hHl, upd_ne nda]; exact h1
    have l2 : Hl d = some (.frz od (.dK (kRow r))) := by rw [← hHl]; exact upd_same
    refine ⟨_, rfl, a, _, 0, .ref d, rfl, rfl, SqT.of l1, rfl, d, od, kRow r, rfl, l2, for_it walk_items (fun i σ H1 => ∃ x3 x4 : Option V, σ = [some (.str sg), some (.ref a), some (.int (m : Nat)), x3, x4] ∧ Same Hl H1) ?_ ?_ ?_ ?_⟩
    · exact ⟨_, _, rfl, Same.refl _⟩
    · rintro i σ H1 _ ⟨_, _, _, e1⟩
      exact e1 _ _ l2
    · rintro i x σ H1 H2 hi ⟨x3, x4, rfl, e1⟩ ⟨T, kx, vx, rfl, hT, rfl, hk, hv⟩
      obtain ⟨c, n, hcn, rfl, rfl⟩ := row_at hk hv
      have hmem : (c, n) ∈ r := List.mem_of_getElem? hcn
      have hn : n < m := ok.lt _ hmem
      have hc : c ∈ cps sg := ok.sub.subset (List.mem_map.mpr ⟨_, hmem, rfl⟩)
      refine ⟨T, _, rfl, SqT.of upd_same, rfl, _, _, rfl, _, _, rfl, rfl, ?_⟩
      refine ⟨_, rfl, _, .ty "str", _, _, _, rfl, .ty "str", .base (.str _), kit_ty (by decide +kernel : kitB "str" "str" = some true), _, rfl, iteF ?_⟩
      have l1c : (⟨#[c]⟩ : Str).length ≤ 100000 := by show 1 ≤ 100000; omega
      refine ⟨_, rfl, _, _, rfl, Of3.str l1c, rfl, _, rfl, iteF ?_⟩
      refine ⟨_, rfl, _, rfl, c, sg, rfl, rfl, _, rfl, ?_⟩
      rw [decide_eq_true (show c ∈ sg.cps.toList from hc)]
      refine iteF ?_
      refine ⟨_, rfl, n, rfl, by omega, _, rfl, iteF ?_⟩
      refine ⟨_, rfl, _, _, rfl, rfl, _, rfl, ?_⟩
      rw [decide_eq_true (show (0 : Int) ≤ (n : Nat) by omega)]
      refine iteT ⟨_, rfl, _, _, rfl, rfl, _, rfl, ?_⟩
      rw [decide_eq_true (show ((n : Nat) : Int) < (m : Nat) by omega)]
      exact iteF ⟨_, _, rfl, same_upd e1 hT⟩
    · rintro σ H1 ⟨x3, x4, rfl, e1⟩
      refine ⟨e1 _ _ l2, ?_⟩
      refine k _ fun b o e => ?_
      by_cases hb : b = d
      · subst hb
        rw [h2] at e
        cases e
        exact upd_same
      · rw [upd_ne hb]
        exact e1 _ _ (by rw [← hHl, upd_ne hb]; exact e)
/-- states of a rule -/
def spStates : Sp := fun vs H Q _ => ∃ (sg : Str) (t : Addr) (st : Sts), vs = [.str sg, .ref t] ∧ StsT H t st ∧ StsOk (cps sg) st ∧ ∀ H', Same H H' → Q (.bl true) H'
abbrev s_p_states : Stmt := top 17
theorem sc_p_states : FnScope ["signs", "value", "state"] ["signs", "value"] (defScope s_p_states) := ⟨rfl, rfl, rfl, by decide +kernel, rfl, by decide +kernel, by decide +kernel⟩
theorem cal_p_states (T : Bs mg) (G : Gs mg) (D : Df K mg "are_states" s_p_states ["signs", "value"]) (C_p_state : CalP P w K mg base CX0 2 "is_state" spState) : CalP P w K mg base CX0 3 "are_states" spStates := by
  refine D.calP sc_p_states (fun vs H Q E h => ?_) (fun f cdv A outer s H vs Q E hr h => ?_)
  · obtain ⟨sg, t, st, rfl, _⟩ := h
    rfl
  · obtain ⟨sg, t, st, rfl, ⟨as, h1, h2⟩, ok, k⟩ := h
    refine ⟨_, pss_cons (ps_if (PW.pt (pw_or (pt_not (pt_val (pb call_isi T.z_isinstance (pa_cons (pv 1) (pa_cons (pe_bltn (v := .ty "tuple") (u := .type "tuple") rfl T.z_tuple (by decide +kernel) rfl) pa_nil))))) (pw_or1 (pt_not (pt_chain op_le op_le pe_int (pb call_len3 T.z_len (pa_cons (pv 1) pa_nil)) (pe_gint G.g_MAX_STATES))))))
        (pss_one (ps_ret pe_bl))
        pss_nil)
      (pss_one (ps_ret (pb (cr_all rfl) T.z_all (pa_cons (pe_lc (own := [("state", 2)]) (te := (tCallS spState (fun _ => E0) (tCons (tVar 0) (tCons (tVar 2) (tCons (tCB (rLen3 K) (tCons (tVar 1) tNil)) tNil))))) rfl sc_p_states.nd (pi_tup (pv 1)) (blkOk_by (N := ["signs", "value", "state"]) (sc := defScope s_p_states) (by decide +kernel)) (fun _ _ _ _ _ => (pg_name (i := 2) sc_p_states.nd rfl (Or.inl rfl))) (fun _ _ _ _ _ => pts_nil) (fun _ _ _ _ _ => (pcP C_p_state hr (pa_cons (pv 0) (pa_cons (pv 2) (pa_cons (pb call_len3 T.z_len (pa_cons (pv 1) pa_nil)) pa_nil)))))) pa_nil)))), ?_⟩
    have la : as.length = st.length := paired_len h2
    obtain ⟨p1, p2, p3⟩ := ok
    refine ⟨_, rfl, _, .ty "tuple", _, _, _, rfl, .ty "tuple", .base (.tup h1), kit_ty (by decide +kernel : kitB "tuple" "tuple" = some true), _, rfl, iteF ?_⟩
    refine ⟨_, rfl, _, _, rfl, Of3.tup h1, _, _, rfl, rfl, _, rfl, ?_⟩
    rw [List.length_map, la, decide_eq_true (show (1 : Int) ≤ (st.length : Nat) by omega)]
    refine iteT ⟨_, _, rfl, rfl, ?_⟩
    refine ⟨_, rfl, ?_⟩
    rw [decide_eq_true (show ((st.length : Nat) : Int) ≤ 6 by omega)]
    refine iteF ?_
    refine ⟨_, rfl, t, rfl, ⟨_, SqT.of h1⟩, fun D hD => ?_⟩
    refine lc_it (walk_tup (xs := as.map V.ref)) (fun i H1 => Same H H1 ∧ H1 D = some (.lst (List.replicate i (V.bl true)))) ?_ ?_ ?_ ?_
    · exact ⟨same_upd (Same.refl H) hD, upd_same⟩
    · rintro i H1 _ ⟨e1, _⟩
      exact SqT.of (e1 _ _ h1)
    · rintro i x H1 H2 hi ⟨e1, e2⟩ ⟨rfl, hx⟩
      rw [List.getElem?_map] at hx
      obtain ⟨a, ha, rfl⟩ := Option.map_eq_some_iff.mp hx
      obtain ⟨p, hp, hpa⟩ := paired_get h2 ha
      rw [List.length_map, la] at hi
      refine ⟨rfl, _, rfl, _, rfl, _, rfl, _, _, rfl, Of3.tup (e1 _ _ h1), sg, a, st.length, p, ?_, hpa.le e1, p3 p (List.mem_of_getElem? hp), p2, fun H3 e3 => ?_⟩
      · rw [List.length_map, la]
      · refine ⟨_, e3 _ _ e2, by rw [List.length_replicate, sizeLine_eq]; omega, same_mut (e1.trans e3) hD, ?_⟩
        rw [upd_same, List.replicate_succ']
    · rintro H1 ⟨e1, e2⟩
      rw [List.length_map, la] at e2
      refine ⟨D, List.replicate st.length true, rfl, SqL.of ?_, ?_⟩
      · rw [e2, List.map_replicate]
      · have e : (List.replicate st.length true).all id = true := by simp
        rw [e]
        exact k H1 e1
end
end Fs
namespace Fs
open PySem PySem.Spec PyProof.Rows L2 SlX RZ
/-! ### the class -/
structure Rx (K : PySem.W.Frag) (mg : Str → Option Value) (C : Addr) : Prop where
  gC : mg "Rule" = some (.ref C)
  sc : SCls K C
  si : SIsi K C
  t0 : ∃ p, Slot1 K C "own_goods" p 0
  t1 : ∃ p, Slot1 K C "own_moves" p 1
  t2 : ∃ p, Slot1 K C "own_signs" p 2
  kk : PySem.W.kitOne K (.ref C) (.ref C) = some true
  kt : PySem.W.kitOne K (.type "tuple") (.ref C) = some false
  sf : PySem.W.selfFirst K C = true
  nf : PySem.W.notFirst K C (.ref C) = true
  nt : PySem.W.notFirst K C (.type "tuple") = true
/-- the error of too many -/
structure TMx (P : Program) (K : PySem.W.Frag) (mg : Str → Option Value) (TM : Addr) : Prop where
  ex : ∃ fI : Addr, SupF P K mg "OverflowError" "OverflowError.__new__" "OverflowError.__init__" [.type "OverflowError", .type "ArithmeticError", .type "Exception", .type "BaseException", .type "object"] TM fI (inClass (top 5) 0) "self" "limit" "limit" "TooMany.__init__"
  b : SupB (inClass (top 5) 0) "self" "limit" "limit"
  g : mg "TooMany" = some (.ref TM)
/-- too many is told by an error -/
def TooX (TM : Addr) (E : XK) (H : Hp) : Prop := ∀ (d : Addr) (H' : Hp), Same H H' → H' d = some (.xd [("limit", .int 6)]) → E (.ref TM) (some d) H'
theorem TooX.le {TM : Addr} {E : XK} {H H1 : Hp} (h : TooX TM E H) (e : Same H H1) : TooX TM E H1 := fun d H' e2 hd => h d H' (e.trans e2) hd
section
variable {P : Program} {w : World} {K : PySem.W.Frag} {mg : Str → Option Value} {base : Heap} {C TM : Addr} {f : Addr} {fd : FuncData}
def spLim (TM : Addr) : Sp := fun vs H Q E => ∃ (t lm : Addr) (y : V) (ms : List V), vs = [.ref t] ∧ H t = some (.tup [.ref lm, y]) ∧ H lm = some (.lst ms) ∧ ms.length ≤ 1000 ∧ (ms.length ≤ 6 → Q (.ref t) H) ∧ (6 < ms.length → TooX TM E H)
abbrev s_p_lim : Stmt := top 19
theorem sc_p_lim : FnScope ["table"] ["table"] (defScope s_p_lim) := ⟨rfl, rfl, rfl, by decide +kernel, rfl, by decide +kernel, by decide +kernel⟩
theorem cal_p_lim (T : Bs mg) (G : Gs mg) (Z : TMx P K mg TM) (D : Df K mg "limited" s_p_lim ["table"]) : CalP P w K mg base (L2.CX P w) 2 "limited" (spLim TM) := by
  obtain ⟨fI, tf⟩ := Z.ex
  refine D.calX sc_p_lim (fun vs H Q E h => ?_) (fun f cdv A outer s H vs Q E hr h => ?_)
  · obtain ⟨t, lm, y, ms, rfl, _⟩ := h
    rfl
  · obtain ⟨t, lm, y, ms, rfl, h1, h2, hz, k1, k2⟩ := h
    refine ⟨_, pss_cons (ps_if (pt_cmpR op_gt (pb call_len3 T.z_len (pa_cons (pe_ix ix_tup (pv 0) pe_int (fun _ _ => rfl)) pa_nil)) (pe_gint G.g_MAX_STATES) (nomark _))
        (pss_one (ps_raise rfl (takes_of rfl rfl rfl rfl) (pmk_sup tf Z.b (hr.mono (by decide)) rfl Z.g (pe_gint G.g_MAX_STATES))))
        pss_nil)
      (pss_one (ps_ret (pv 0))), ?_⟩
    refine ⟨_, rfl, t, _, 0, .ref lm, rfl, rfl, SqT.of h1, rfl, _, _, rfl, Of3.lst h2, ?_⟩
    refine ⟨_, _, rfl, rfl, _, rfl, ?_⟩
    by_cases c : 6 < ms.length
    · rw [decide_eq_true (show (6 : Int) < (ms.length : Nat) by omega)]
      refine iteT fun d hd => ?_
      exact k2 c d _ (same_upd (Same.refl H) hd) upd_same
    · rw [decide_eq_false (show ¬ (6 : Int) < (ms.length : Nat) by omega)]
      exact iteF ⟨_, rfl, k1 (by omega)⟩
def spTable (C : Addr) : Sp := fun vs H Q _ => ∃ (x dx lg lm : Addr) (z : Option V), vs = [.ref x] ∧ Slt H x C dx [some (.ref lg), some (.ref lm), z] ∧ ∀ t, H t = none → Q (.ref t) (upd H t (.tup [.ref lm, .ref lg]))
abbrev s_p_table : Stmt := top 24
theorem sc_p_table : FnScope ["rule"] ["rule"] (defScope s_p_table) := ⟨rfl, rfl, rfl, by decide +kernel, rfl, by decide +kernel, by decide +kernel⟩
theorem cal_p_table (Z : Rx K mg C) (D : Df K mg "table_of" s_p_table ["rule"]) : CalP P w K mg base CX0 1 "table_of" (spTable C) := by
  refine D.calP sc_p_table (fun vs H Q E h => ?_) (fun f cdv A outer s H vs Q E hr h => ?_)
  · obtain ⟨x, dx, lg, lm, z, rfl, _⟩ := h
    rfl
  · obtain ⟨x, dx, lg, lm, z, rfl, sl, k⟩ := h
    refine ⟨_, pss_one (ps_ret (pe_tup (pa_cons (pe_sl (pv 0)) (pa_cons (pe_sl (pv 0)) pa_nil)))), ?_⟩

-- rule_of: NO: call of Rule
    obtain ⟨p0, s0⟩ := Z.t0
    obtain ⟨p1, s1⟩ := Z.t1
    exact ⟨_, rfl, x, C, dx, p1, _, 1, _, rfl, sl, Z.sc, s1, rfl, _, rfl, x, C, dx, p0, _, 0, _, rfl, sl, Z.sc, s0, rfl, by show 2 ≤ sizeLine; decide, k⟩
def spLike (C : Addr) : Sp := fun vs H Q _ => ∃ (x y : Addr) (sg : List Nat) (s1 s2 : Sts), vs = [.ref x, .ref y] ∧ RuAt H x C sg s1 ∧ RuAt H y C sg s2 ∧ Q .non H
abbrev s_p_like : Stmt := top 26
theorem sc_p_like : FnScope ["rule", "other"] ["rule", "other"] (defScope s_p_like) := ⟨rfl, rfl, rfl, by decide +kernel, rfl, by decide +kernel, by decide +kernel⟩
theorem cal_p_like (T : Bs mg) (Z : Rx K mg C) (D : Df K mg "require_like" s_p_like ["rule", "other"]) : CalP P w K mg base CX0 1 "require_like" (spLike C) := by
  refine D.calP sc_p_like (fun vs H Q E h => ?_) (fun f cdv A outer s H vs Q E hr h => ?_)
  · obtain ⟨x, y, sg, s1, s2, rfl, _⟩ := h
    rfl
  · obtain ⟨x, y, sg, s1, s2, rfl, ⟨dx, lg, lm, ds, sl, _⟩, ⟨dy, lg2, lm2, ds2, sl2, _⟩, k⟩ := h
    refine ⟨_, pss_one (ps_if (PW.pt (pw_or (pt_not (pt_val (pb (CallR.or call_isi (call_isiSl (.ref C))) T.z_isinstance (pa_cons (pv 1) (pa_cons (pe_glob (v := .ref C) (u := .ref C) rfl Z.gC rfl) pa_nil))))) (pw_or1 (pt_cmpR op_ne (pe_sl (pv 0)) (pe_sl (pv 1)) (nomark _)))))
        (pss_one ps_never)
        pss_nil), ?_⟩

-- Rule.__init__: NO: transformer of {sign: state[0][sign] for sign in signs if sign in state[0]}

-- Rule.states: NO: transformer of call dict
    obtain ⟨p2, t2⟩ := Z.t2
    refine ⟨_, rfl, .inr ⟨y, C, dy, _, .ref C, true, rfl, rfl, fun _ z => z, sl2, Z.sc, Z.si, Z.kk, _, rfl, iteF ?_⟩⟩
    refine ⟨_, rfl, x, C, dx, p2, _, 2, _, rfl, sl, Z.sc, t2, rfl, _, rfl, y, C, dy, p2, _, 2, _, rfl, sl2, Z.sc, t2, rfl, rfl, _, rfl, ?_⟩
    rw [decide_eq_true (rfl : V.str (SX.S sg) = V.str (SX.S sg))]
    exact iteF k
/-! ### the walk along a word */ -/
def keepsL (s : Sts) : List Nat → Nat → Bool
  | [], i => (s.getD i ([], false)).2
  | c :: w, i => match lk (s.getD i ([], false)).1 c with
    | none => false
    | some n => keepsL s w n
theorem keepsL_cons {s : Sts} {c : Nat} {w : List Nat} {i : Nat} : keepsL s (c :: w) i = match lk (s.getD i ([], false)).1 c with
    | none => false
    | some n => keepsL s w n := rfl
theorem lk_mem {r : Row} {c n : Nat} (h : lk r c = some n) : (c, n) ∈ r := by
  unfold lk at h
  cases q : r.find? fun p => decide (p.1 = c) with
  | none => rw [q] at h; cases h
  | some p =>
    rw [q] at h
    have h1 : p.2 = n := Option.some.inj h
    have h2 : p.1 = c := by
      have z := List.find?_some q
      simpa using z
    rw [← h1, ← h2]
    exact List.mem_of_find?_eq_some q
def spKept (C : Addr) : Sp := fun vs H Q _ => ∃ (x : Addr) (sg : List Nat) (st : Sts) (z : Str), vs = [.ref x, .str z] ∧ RuAt H x C sg st ∧ StsOk sg st ∧ Q (.bl (keepsL st (cps z) 0)) H
abbrev s_m_is_kept_by : Stmt := inClass (top 27) 6
theorem sc_m_is_kept_by : FnScope ["self", "word", "at", "sign"] ["self", "word"] (defScope s_m_is_kept_by) := ⟨rfl, rfl, rfl, by decide +kernel, rfl, by decide +kernel, by decide +kernel⟩
theorem fn_kept (Z : Rx K mg C) (F : L2.Fun K "is_kept_by" "Rule.is_kept_by" s_m_is_kept_by f fd) : FnOk P w K mg base CX0 2 f fd ["self", "word"] (spKept C) := by
  refine F.ok sc_m_is_kept_by (fun vs H Q E h => ?_) (fun cdv A outer s H vs Q E hr h => ?_)
  · obtain ⟨x, sg, st, z, rfl, _⟩ := h
    rfl
  · obtain ⟨x, sg, st, z, rfl, ⟨dx, lg, lm, ds, sl, h1, h2, h3⟩, ok, k⟩ := h
    refine ⟨_, pss_cons (ps_set (i := 2) sc_m_is_kept_by.nd rfl (.inl rfl) pe_int)
      (pss_cons (ps_for PassesOwn.never rfl (pi_str (pv 1)) (pg_name (i := 3) sc_m_is_kept_by.nd rfl (Or.inl rfl))
        (pss_cons (ps_if (pt_cmp (pc_dnotin (hu_of hr) (pv 3) (pe_ix ix_list (pe_sl (pv 0)) (pv 2) (fun _ _ => rfl))))
          (pss_one (ps_ret pe_bl))
          pss_nil)
        (pss_one (ps_set (i := 2) sc_m_is_kept_by.nd rfl (.inl rfl) (pe_dget (hu_of hr) (pe_ix ix_list (pe_sl (pv 0)) (pv 2) (fun _ _ => rfl)) (pv 3) (fun _ _ => rfl))))))
      (pss_one (ps_ret (pe_ix ix_list (pe_sl (pv 0)) (pv 2) (fun _ _ => rfl))))), ?_⟩

-- Rule.__call__: NO: method is_kept_by of rule: self.is_kept_by(word)

-- Rule.__contains__: NO: method is_kept_by of rule: self.is_kept_by(value)
    obtain ⟨p0, s0⟩ := Z.t0
    obtain ⟨p1, s1⟩ := Z.t1
    have ld : ds.length = st.length := paired_len h3
    have at_n : ∀ n : Nat, n < st.length → ∃ d, (ds.map V.ref)[n]? = some (.ref d) ∧ RowAt H d (st.getD n ([], false)).1 := fun n hn => by
      obtain ⟨p, hp, hr⟩ := paired_get h3 (List.getElem?_eq_getElem (by omega : n < ds.length))
      refine ⟨ds[n], by rw [List.getElem?_map, List.getElem?_eq_getElem (by omega : n < ds.length)]; rfl, ?_⟩
      rw [List.getD_eq_getElem?_getD, hp]
      exact hr
    refine ⟨_, rfl, z, rfl, for_it walk_str (fun i σ H1 => ∃ (n : Nat) (x3 : Option V), σ = [some (.ref x), some (.str z), some (.int (n : Nat)), x3] ∧ H1 = H ∧ n < st.length ∧ keepsL st (cps z) 0 = keepsL st ((cps z).drop i) n) ?_ ?_ ?_ ?_⟩
    · exact ⟨0, none, rfl, rfl, ok.pos, rfl⟩
    · exact fun _ _ _ _ _ => trivial
    · rintro i y σ H1 H2 hi ⟨n, x3, rfl, rfl, hn, e⟩ ⟨rfl, c, hc, rfl⟩
      have hc' : (cps z)[i]? = some c := by rw [← Array.getElem?_toList] at hc; exact hc
      have hd : (cps z).drop i = c :: (cps z).drop (i + 1) := by
        obtain ⟨hl, hx⟩ := List.getElem?_eq_some_iff.mp hc'
        rw [← hx]
        exact List.drop_eq_getElem_cons hl
      rw [hd] at e
      obtain ⟨d, a1, a2⟩ := at_n n hn
      have g1 := DGet.k (k := .inr ⟨#[c]⟩) a2
      rw [valV_row] at g1
      refine ⟨_, rfl, _, rfl, x, C, dx, p1, _, 1, _, rfl, sl, Z.sc, s1, rfl, _, rfl, lm, _, _, _, rfl, rfl, SqL.of h2, atI_nat a1, d, _, rfl, g1, _, rfl, ?_⟩
      rw [keepsL_cons] at e
      cases q : lk (st.getD n ([], false)).1 c with
      | none =>
        rw [q] at e
        refine iteT ?_
        rw [e] at k
        exact k
      | some n' =>
        rw [q] at e g1
        refine iteF ?_
        have hn' : n' < st.length := by
          have hm := lk_mem q
          rw [List.getD_eq_getElem?_getD, List.getElem?_eq_getElem hn] at hm
          exact (ok.rows _ (List.getElem_mem hn)).lt _ hm
        exact ⟨_, rfl, x, C, dx, p1, _, 1, _, rfl, sl, Z.sc, s1, rfl, _, rfl, lm, _, _, _, rfl, rfl, SqL.of h2, atI_nat a1, _, rfl, d, _, rfl, g1, n', _, rfl, rfl, hn', e⟩
    · rintro σ H1 ⟨n, x3, rfl, rfl, hn, e⟩
      have e9 : (cps z).drop z.cps.size = [] := by
        rw [List.drop_eq_nil_iff]
        exact Nat.le_of_eq (len_cps z).symm
      rw [e9] at e
      refine ⟨_, rfl, x, C, dx, p0, _, 0, _, rfl, sl, Z.sc, s0, rfl, _, rfl, lg, _, _, _, rfl, rfl, SqL.of h1, atI_nat (v := .bl (st.getD n ([], false)).2) ?_, ?_⟩
      · rw [List.getElem?_map, List.getElem?_eq_getElem hn, List.getD_eq_getElem?_getD, List.getElem?_eq_getElem hn]; rfl
      · rw [e] at k
        exact k
end
end Fs
namespace Fs
open PySem PySem.Spec PyProof.Rows L2 SlX RZ
/-! ### methods of the program's class -/
structure MthP (P : Program) (w : World) (K : PySem.W.Frag) (mg : Str → Option Value) (base : Heap) (CX : CXT) (C : Addr) (m : Str) (k : Nat) (sp : Sp) : Prop where
  ex : ∃ g : Addr, Meth K C m g ∧ FnR P w K mg base CX k g sp
section
variable {X : Cx} {CX : CXT} {k j : Nat} {C : Addr} {sp : Sp} {E : XK} {o e : Expr} {es : List Expr} {m : Str} {ta : TE} {t : TA} {pos apos : Pos} {pl : Sem Bool}
theorem pmP (c : MthP X.prog X.w X.K X.mg X.base CX C m k sp) (sc : SCls X.K C) (hr : Room j X.A) (hx : Passes CX X E) (he : PE X o ta) (ha : PA X (e :: es) t) (hk : k ≤ j := by decide)
    (hst : starEach (e :: es) X.env = (false, eval e X.env) :: starEach es X.env := by rfl) (hpl : (backTo pos (starEach es X.env)).any (·.1) = false := by rfl)
    (ht : eval (.Call (.Attribute o m apos) (e :: es) [] pos) X.env = (do
      let ov ← eval o X.env
      standAt apos.atName
      let (f, first) ← holding [ov] (getMethod ov m pl)
      callWith pos f first (backTo pos (starEach (e :: es) X.env)) (backToKw pos (keywordEach [] X.env))) := by rfl) :
    PE X (.Call (.Attribute o m apos) (e :: es) [] pos) (tMethSl C sp E ta t) := by
  obtain ⟨g, h, F⟩ := c.ex
  exact pe_methSl he sc h F (hr.mono hk) hx ha hst hpl ht
theorem pmP0 (c : MthP X.prog X.w X.K X.mg X.base CX C m k sp) (sc : SCls X.K C) (hr : Room j X.A) (hx : Passes CX X E) (he : PE X o ta) (hk : k ≤ j := by decide)
    (ht : eval (.Call (.Attribute o m apos) [] [] pos) X.env = (do
      let ov ← eval o X.env
      standAt apos.atName
      let (f, first) ← holding [ov] (getMethod ov m pl)
      callWith pos f first (backTo pos (starEach [] X.env)) (backToKw pos (keywordEach [] X.env))) := by rfl) :
    PE X (.Call (.Attribute o m apos) [] [] pos) (tMethSl C sp E ta tNil) := by
  obtain ⟨g, h, F⟩ := c.ex
  exact pe_methSl0 he sc h F (hr.mono hk) hx ht
end
/-- a rule's answer about a value -/
def inRu (st : Sts) (sg : List Nat) : PyData → Bool
  | .str z => wordL (SX.S sg) z && keepsL st (cps z) 0
  | _ => false
def ruText (n : Nat) (sg : List Nat) : Str := ((("rule of " : Str) ++ (toString (n : Int) : Str)) ++ (" states for " : Str)) ++ SX.S sg
def rDictD : List V → Hp → VK → Prop := fun xs H Q => ∃ (a : Addr) (kvs : List (Key × V)), xs = [.ref a] ∧ Rd H a (.dK kvs) ∧ ∀ p, H p = none → Q (.ref p) (upd H p (.dK kvs))
theorem call_dictDx {X : Cx} : CallR X (.type "dict") rDictD := call_dictD
section
variable {P : Program} {w : World} {K : PySem.W.Frag} {mg : Str → Option Value} {base : Heap} {C TM : Addr} {f : Addr} {fd : FuncData}
def spCall (C : Addr) : Sp := fun vs H Q _ => ∃ (x : Addr) (sg : List Nat) (st : Sts) (z : Str), vs = [.ref x, .str z] ∧ RuAt H x C sg st ∧ StsOk sg st ∧ TOk z ∧ wordL (SX.S sg) z = true ∧ ∀ H', Same H H' → Q (.bl (keepsL st (cps z) 0)) H'
abbrev s_m_call : Stmt := inClass (top 27) 7
theorem sc_m_call : FnScope ["self", "word"] ["self", "word"] (defScope s_m_call) := ⟨rfl, rfl, rfl, by decide +kernel, rfl, by decide +kernel, by decide +kernel⟩
theorem fn_call (Z : Rx K mg C) (F : L2.Fun K "__call__" "Rule.__call__" s_m_call f fd) (C_p_word : CalP P w K mg base CX0 1 "is_word_of" spWord2) (M_kept : MthP P w K mg base CX0 C "is_kept_by" 2 (spKept C)) : FnOk P w K mg base CX0 3 f fd ["self", "word"] (spCall C) := by
  refine F.ok sc_m_call (fun vs H Q E h => ?_) (fun cdv A outer s H vs Q E hr h => ?_)
  · obtain ⟨x, sg, st, z, rfl, _⟩ := h
    rfl
  · obtain ⟨x, sg, st, z, rfl, ru, ok, tz, hw, k⟩ := h
    refine ⟨_, pss_cons (ps_if (pt_not (pt_val (pcP C_p_word hr (pa_cons (pe_sl (pv 0)) (pa_cons (pv 1) pa_nil)))))
        (pss_one ps_never)
        pss_nil)
      (pss_one (ps_ret (pmP M_kept Z.sc hr pass0 (pv 0) (pa_cons (pv 1) pa_nil)))), ?_⟩
    obtain ⟨p2, t2⟩ := Z.t2
    have ru' := ru
    obtain ⟨dx, lg, lm, ds, sl, _⟩ := ru'
    refine ⟨_, rfl, x, C, dx, p2, _, 2, _, rfl, sl, Z.sc, t2, rfl, _, rfl, _, _, _, rfl, .str z tz, fun H1 e1 => ⟨_, rfl, ?_⟩⟩
    rw [show isWordD (SX.S sg) (.str z) = true from hw]
    refine iteF ?_
    exact ⟨_, rfl, x, dx, _, rfl, slt_mono sl e1, _, rfl, x, sg, st, z, rfl, ru.le e1, ok, k H1 e1⟩
def spCont (C : Addr) : Sp := fun vs H Q _ => ∃ (x : Addr) (sg : List Nat) (st : Sts) (v : V) (d : PyData), vs = [.ref x, v] ∧ RuAt H x C sg st ∧ StsOk sg st ∧ Dx H v d ∧ ∀ H', Same H H' → Q (.bl (inRu st sg d)) H'
abbrev s_m_contains : Stmt := inClass (top 27) 8
theorem sc_m_contains : FnScope ["self", "value"] ["self", "value"] (defScope s_m_contains) := ⟨rfl, rfl, rfl, by decide +kernel, rfl, by decide +kernel, by decide +kernel⟩
theorem fn_contains (Z : Rx K mg C) (F : L2.Fun K "__contains__" "Rule.__contains__" s_m_contains f fd) (C_p_word : CalP P w K mg base CX0 1 "is_word_of" spWord2) (M_kept : MthP P w K mg base CX0 C "is_kept_by" 2 (spKept C)) : FnOk P w K mg base CX0 3 f fd ["self", "value"] (spCont C) := by
  refine F.ok sc_m_contains (fun vs H Q E h => ?_) (fun cdv A outer s H vs Q E hr h => ?_)
  · obtain ⟨x, sg, st, v, d, rfl, _⟩ := h
    rfl
  · obtain ⟨x, sg, st, v, d, rfl, ru, ok, hd, k⟩ := h
    refine ⟨_, pss_one (ps_ret (pe_and (pcP C_p_word hr (pa_cons (pe_sl (pv 0)) (pa_cons (pv 1) pa_nil))) (pe_one (pmP M_kept Z.sc hr pass0 (pv 0) (pa_cons (pv 1) pa_nil))))), ?_⟩
    obtain ⟨p2, t2⟩ := Z.t2
    have ru' := ru
    obtain ⟨dx, lg, lm, ds, sl, _⟩ := ru'
    refine ⟨_, rfl, x, C, dx, p2, _, 2, _, rfl, sl, Z.sc, t2, rfl, _, rfl, _, _, _, rfl, hd, fun H1 e1 => ⟨_, rfl, ?_⟩⟩
    have k1 := k H1 e1
    cases c : isWordD (SX.S sg) d with
    | false =>
      refine iteF ?_
      have e : inRu st sg d = false := by
        cases d with
        | str z => show (wordL (SX.S sg) z && keepsL st (cps z) 0) = false
                   rw [show wordL (SX.S sg) z = false from c, Bool.false_and]
        | _ => rfl
      rw [e] at k1
      exact k1
    | true =>
      refine iteT ?_
      cases hd with
      | str z hz =>
        have e : inRu st sg (.str z) = keepsL st (cps z) 0 := by
          show (wordL (SX.S sg) z && keepsL st (cps z) 0) = _
          rw [show wordL (SX.S sg) z = true from c, Bool.true_and]
        rw [e] at k1
        exact ⟨_, rfl, x, dx, _, rfl, slt_mono sl e1, _, rfl, x, sg, st, z, rfl, ru.le e1, ok, k1⟩
      | _ => cases c
def spLen (C : Addr) : Sp := fun vs H Q _ => ∃ (x : Addr) (sg : List Nat) (st : Sts), vs = [.ref x] ∧ RuAt H x C sg st ∧ st.length ≤ 6 ∧ Q (.int (st.length : Nat)) H
abbrev s_m_len : Stmt := inClass (top 27) 13
theorem sc_m_len : FnScope ["self"] ["self"] (defScope s_m_len) := ⟨rfl, rfl, rfl, by decide +kernel, rfl, by decide +kernel, by decide +kernel⟩
theorem fn_len (T : Bs mg) (Z : Rx K mg C) (F : L2.Fun K "__len__" "Rule.__len__" s_m_len f fd) : FnOk P w K mg base CX0 1 f fd ["self"] (spLen C) := by
  refine F.ok sc_m_len (fun vs H Q E h => ?_) (fun cdv A outer s H vs Q E hr h => ?_)
  · obtain ⟨x, sg, st, rfl, _⟩ := h
    rfl
  · obtain ⟨x, sg, st, rfl, ⟨dx, lg, lm, ds, sl, h1, h2, h3⟩, ok, k⟩ := h
    refine ⟨_, pss_one (ps_ret (pb call_len3 T.z_len (pa_cons (pe_sl (pv 0)) pa_nil))), ?_⟩
    obtain ⟨p1, t1⟩ := Z.t1
    refine ⟨_, rfl, x, C, dx, p1, _, 1, _, rfl, sl, Z.sc, t1, rfl, _, _, rfl, Of3.lst h2, ?_⟩
    rw [List.length_map, show ds.length = st.length from paired_len h3]
    exact k
def spStr (C : Addr) : Sp := fun vs H Q _ => ∃ (x : Addr) (sg : List Nat) (st : Sts), vs = [.ref x] ∧ RuAt H x C sg st ∧ st.length ≤ 6 ∧ sg.length ≤ 4 ∧ Q (.str (ruText st.length sg)) H
abbrev s_m_str : Stmt := inClass (top 27) 14
theorem sc_m_str : FnScope ["self"] ["self"] (defScope s_m_str) := ⟨rfl, rfl, rfl, by decide +kernel, rfl, by decide +kernel, by decide +kernel⟩
theorem fn_str (T : Bs mg) (Z : Rx K mg C) (F : L2.Fun K "__str__" "Rule.__str__" s_m_str f fd) : FnOk P w K mg base CX0 1 f fd ["self"] (spStr C) := by
  refine F.ok sc_m_str (fun vs H Q E h => ?_) (fun cdv A outer s H vs Q E hr h => ?_)
  · obtain ⟨x, sg, st, rfl, _⟩ := h
    rfl
  · obtain ⟨x, sg, st, rfl, ⟨dx, lg, lm, ds, sl, h1, h2, h3⟩, ok, lsg, k⟩ := h
    refine ⟨_, pss_one (ps_ret (pe_joined (PJ.cons pe_str (PJ.cons (pe_fmt (pb call_len3 T.z_len (pa_cons (pe_sl (pv 0)) pa_nil))) (PJ.cons pe_str (PJ.cons (pe_fmt (pe_sl (pv 0))) PJ.nil)))))), ?_⟩
    obtain ⟨p1, t1⟩ := Z.t1
    obtain ⟨p2, t2⟩ := Z.t2
    have ld : ds.length = st.length := paired_len h3
    have la : ∀ a b : Str, (a ++ b).length = a.length + b.length := fun a b => by rw [len_cps, len_cps, len_cps, cps_add, List.length_append]
    have e0 : (Str.empty ++ ("rule of " : Str)) = ("rule of " : Str) := by decide +kernel
    have e1 : ∀ n : Nat, n ≤ 6 → (("rule of " : Str) ++ (toString (n : Int) : Str)).length ≤ 20 := by decide +kernel
    have e2 := e1 _ ok
    refine ⟨_, rfl, by rw [e0, sizeLine_eq]; decide +kernel, ?_⟩
    rw [e0]
    refine ⟨_, rfl, x, C, dx, p1, _, 1, _, rfl, sl, Z.sc, t1, rfl, _, _, rfl, Of3.lst h2, .inr ⟨_, rfl, ?_, _, rfl, ?_, ?_⟩⟩
    · rw [List.length_map, ld]
      have : ∀ n : Nat, n ≤ 6 → (n : Int).natAbs.log2 < 1920 := by decide +kernel
      exact this _ ok
    · rw [List.length_map, ld, sizeLine_eq]; omega
    · rw [List.length_map, ld]
      refine ⟨_, rfl, by rw [la, sizeLine_eq]; have : (" states for " : Str).length = 12 := by decide +kernel
                         omega, ?_⟩
      have lsg' : (SX.S sg).length ≤ 4 := lsg
      refine ⟨_, rfl, x, C, dx, p2, _, 2, _, rfl, sl, Z.sc, t2, rfl, .inl ⟨_, rfl, by rw [sizeLine_eq]; omega, _, rfl, ?_, k⟩⟩
      rw [la, la, sizeLine_eq]
      have : (" states for " : Str).length = 12 := by decide +kernel
      omega
def spSigns (C : Addr) : Sp := fun vs H Q _ => ∃ (x : Addr) (sg : List Nat) (st : Sts), vs = [.ref x] ∧ RuAt H x C sg st ∧ Q (.str (SX.S sg)) H
abbrev s_m_signs : Stmt := inClass (top 27) 4
theorem sc_m_signs : FnScope ["self"] ["self"] (defScope s_m_signs) := ⟨rfl, rfl, rfl, by decide +kernel, rfl, by decide +kernel, by decide +kernel⟩
theorem fn_signs (Z : Rx K mg C) (F : L2.Fun K "signs" "Rule.signs" s_m_signs f fd) : FnOk P w K mg base CX0 1 f fd ["self"] (spSigns C) := by
  refine F.ok sc_m_signs (fun vs H Q E h => ?_) (fun cdv A outer s H vs Q E hr h => ?_)
  · obtain ⟨x, sg, st, rfl, _⟩ := h
    rfl
  · obtain ⟨x, sg, st, rfl, ⟨dx, lg, lm, ds, sl, h1, h2, h3⟩, k⟩ := h
    refine ⟨_, pss_one (ps_ret (pe_sl (pv 0))), ?_⟩
    obtain ⟨p2, t2⟩ := Z.t2
    exact ⟨_, rfl, x, C, dx, p2, _, 2, _, rfl, sl, Z.sc, t2, rfl, k⟩
end
end Fs
namespace Fs
open PySem PySem.Spec PyProof.Rows L2 SlX RZ
/-! ### a row by the order of signs -/
def norm (sg : List Nat) (r : Row) : Row := sg.filterMap fun c => (lk r c).map fun n => (c, n)
theorem lk_none {r : Row} {c : Nat} (h : c ∉ r.map (·.1)) : lk r c = none := by
  cases q : lk r c with
  | none => rfl
  | some n => exact (h (List.mem_map.mpr ⟨_, lk_mem q, rfl⟩)).elim
theorem lk_cons_self {c n : Nat} {r : Row} : lk ((c, n) :: r) c = some n := by simp [lk]
theorem lk_cons_ne {c d n : Nat} {r : Row} (h : d ≠ c) : lk ((d, n) :: r) c = lk r c := by simp [lk, h]
theorem norm_cons_ne {sg : List Nat} {d n : Nat} {r : Row} (h : d ∉ sg) : norm sg ((d, n) :: r) = norm sg r := by
  unfold norm
  have : ∀ l : List Nat, (∀ c ∈ l, c ∈ sg) → (l.filterMap fun c => (lk ((d, n) :: r) c).map fun m => (c, m)) = l.filterMap fun c => (lk r c).map fun m => (c, m) := by
    intro l
    induction l with
    | nil => intro _; rfl
    | cons c l ih =>
      intro hl
      rw [List.filterMap_cons, List.filterMap_cons, lk_cons_ne (fun e => h (by rw [e]; exact hl c (List.mem_cons_self ..))), ih fun x hx => hl x (List.mem_cons_of_mem _ hx)]
  exact this sg fun c hc => hc
theorem norm_eq : ∀ {sg : List Nat} {r : Row}, (r.map (·.1)).Sublist sg → sg.Nodup → norm sg r = r
  | [], r, h, _ => by
    have : r = [] := by
      have := List.sublist_nil.mp h
      simpa using this
    subst this; rfl
  | c :: sg, r, h, nd => by
    have nd' := List.nodup_cons.mp nd
    have hn : norm (c :: sg) r = (match lk r c with | none => norm sg r | some n => (c, n) :: norm sg r) := by
      show List.filterMap _ (c :: sg) = _
      rw [List.filterMap_cons]
      cases lk r c <;> rfl
    rw [hn]
    by_cases hc : c ∈ r.map (·.1)
    · cases r with
      | nil => cases hc
      | cons p r =>
        obtain ⟨d, n⟩ := p
        have hd : d = c := by
          cases h with
          | cons _ h' =>
            have : c ∈ sg := h'.subset hc
            exact (nd'.1 this).elim
          | cons_cons _ h' => rfl
        subst hd
        have h' : (r.map (·.1)).Sublist sg := by
          cases h with
          | cons _ h' => exact (List.sublist_cons_self _ _).trans h'
          | cons_cons _ h' => exact h'
        rw [lk_cons_self, norm_cons_ne nd'.1, norm_eq h' nd'.2]
    · rw [lk_none hc]
      have h' : (r.map (·.1)).Sublist sg := by
        cases h' : r.map (·.1) with
        | nil => exact List.nil_sublist _
        | cons y ys =>
          rw [h'] at h
          cases h with
          | cons _ h2 => exact h2
          | cons_cons _ h2 => exact (hc (by rw [h']; exact List.mem_cons_self ..)).elim
      exact norm_eq h' nd'.2
theorem norm_snoc {sg : List Nat} {r : Row} {i c : Nat} (h : sg[i]? = some c) : norm (sg.take (i + 1)) r = norm (sg.take i) r ++ (match lk r c with | none => [] | some n => [(c, n)]) := by
  rw [take_snoc h]
  unfold norm
  rw [List.filterMap_append]
  congr 1
  rw [List.filterMap_cons]
  cases lk r c <;> rfl
theorem norm_keys {sg : List Nat} {r : Row} {p : Nat × Nat} (h : p ∈ norm sg r) : p.1 ∈ sg := by
  obtain ⟨c, hc, e⟩ := List.mem_filterMap.mp h
  obtain ⟨n, _, rfl⟩ := Option.map_eq_some_iff.mp e
  exact hc
theorem norm_len {sg : List Nat} {r : Row} : (norm sg r).length ≤ sg.length := List.length_filterMap_le ..
theorem take_not_mem {l : List Nat} {i c : Nat} (nd : l.Nodup) (h : l[i]? = some c) : c ∉ l.take i := fun q => by
  obtain ⟨j, hj, e⟩ := List.getElem_of_mem q
  rw [List.length_take] at hj
  rw [List.getElem_take] at e
  have := nodup_at nd (List.getElem?_eq_some_iff.mpr ⟨by omega, e⟩) h
  omega
/-- a key that the row lacks is put at its end -/
theorem put_row {l : List (Key × V)} {c : Nat} {v : V} {sg : List Nat} (hk : ∀ kv ∈ l, ∃ d ∈ sg, kv.1 = (.inr ⟨#[d]⟩ : Key)) (h : c ∉ sg) : putK l (.inr ⟨#[c]⟩ : Key) v = l ++ [(.inr ⟨#[c]⟩, v)] :=
  putK_new' fun kv hkv e => by
    obtain ⟨d, hd, e2⟩ := hk kv hkv
    rw [e2] at e
    by_cases q : d = c
    · exact h (by rw [← q]; exact hd)
    · exact key_ne q e
theorem kRow_keys {sg : List Nat} {r : Row} : ∀ kv ∈ kRow (norm sg r), ∃ d ∈ sg, kv.1 = (.inr ⟨#[d]⟩ : Key) := fun kv h => by
  obtain ⟨p, hp, rfl⟩ := List.mem_map.mp h
  exact ⟨p.1, norm_keys hp, rfl⟩
theorem signs_nodup : ∀ {l : List Nat}, ascL l = true → l.Nodup ∧ ∀ a ∈ l.head?, ∀ b ∈ l.tail, a < b
  | [], _ => ⟨List.nodup_nil, fun _ h => by cases h⟩
  | [a], _ => ⟨by simp, fun _ _ b hb => by cases hb⟩
  | a :: b :: r, h => by
    have h : (decide (a < b) && ascL (b :: r)) = true := h
    rw [Bool.and_eq_true] at h
    have hab : a < b := of_decide_eq_true h.1
    obtain ⟨i1, i2⟩ := signs_nodup h.2
    have low : ∀ c ∈ b :: r, a < c := fun c hc => by
      rcases List.mem_cons.mp hc with e | hc
      · rw [e]; exact hab
      · exact Nat.lt_trans hab (i2 b rfl c hc)
    refine ⟨List.nodup_cons.mpr ⟨fun q => Nat.lt_irrefl _ (low a q), i1⟩, fun x hx c hc => ?_⟩
    obtain rfl : a = x := Option.some.inj hx
    exact low c hc
/-- signs that are good -/
structure SgOk (sg : List Nat) : Prop where
  ok : signsL sg = true
theorem SgOk.nodup {sg : List Nat} (h : SgOk sg) : sg.Nodup := by
  have := h.ok
  unfold signsL at this
  simp only [Bool.and_eq_true] at this
  exact (signs_nodup this.2).1
theorem SgOk.len {sg : List Nat} (h : SgOk sg) : 1 ≤ sg.length ∧ sg.length ≤ 4 := by
  have := h.ok
  unfold signsL at this
  simp only [Bool.and_eq_true, decide_eq_true_eq] at this
  exact ⟨this.1.1.1, this.1.1.2⟩
theorem SgOk.tok {sg : List Nat} (h : SgOk sg) : TOk (SX.S sg) := (lo_signs (x := SX.S sg) h.ok).tok (by decide)
/-- plain things: lists, tuples, dicts -/
def Pln : HO → Prop
  | .dK _ => True
  | .lst _ => True
  | .tup _ => True
  | _ => False
theorem slt_apart {H : Hp} {x C dx b : Addr} {v : Option V} {vs : List (Option V)} {o : HO} (h : Slt H x C dx (v :: vs)) (hb : H b = some o) (ho : Pln o) : b ≠ x ∧ b ≠ dx := by
  rcases h with ⟨_, h⟩ | ⟨h1, h2⟩
  · cases h
  · refine ⟨fun e => ?_, fun e => ?_⟩
    · rw [e, h1] at hb
      cases hb
      exact ho
    · rw [e, h2] at hb
      cases hb
      exact ho
theorem slH_keep {H : Hp} {x C dx b : Addr} {v : Option V} {vs ws : List (Option V)} {o : HO} (h : Slt H x C dx (v :: vs)) (hb : H b = some o) (ho : Pln o) : slH H x C dx ws b = some o := by
  obtain ⟨h1, h2⟩ := slt_apart h hb ho
  rw [slH_ne h1 h2]; exact hb
section
variable {P : Program} {w : World} {K : PySem.W.Frag} {mg : Str → Option Value} {base : Heap} {C TM : Addr} {f : Addr} {fd : FuncData}
def spInit (C : Addr) : Sp := fun vs H Q _ => ∃ (x dx t : Addr) (sg : List Nat) (st : Sts) (H0 : Hp), vs = [.ref x, .str (SX.S sg), .ref t] ∧ H x = some (.ins C dx []) ∧ dx ≠ x ∧ H0 x = none ∧ H0 dx = none ∧ Same H0 H ∧ StsT H0 t st ∧ SgOk sg ∧ StsOk sg st ∧
  ∀ H' : Hp, Same H0 H' → RuAt H' x C sg st → Q .non H'
/-- the rule, its dicts made anew -/
def RuN (H0 H : Hp) (a C : Addr) (sg : List Nat) (s : Sts) : Prop := ∃ (dx lg lm : Addr) (ds : List Addr), Slt H a C dx [some (.ref lg), some (.ref lm), some (.str (SX.S sg))] ∧ H lg = some (.lst (s.map fun p => .bl p.2)) ∧ H lm = some (.lst (ds.map V.ref)) ∧ Paired (fun d p => RowAt H d p.1) ds s ∧ ∀ d ∈ ds, H0 d = none
theorem RuN.ru {H0 H : Hp} {a C : Addr} {sg : List Nat} {s : Sts} (h : RuN H0 H a C sg s) : RuAt H a C sg s := by
  obtain ⟨dx, lg, lm, ds, h1, h2, h3, h4, _⟩ := h
  exact ⟨dx, lg, lm, ds, h1, h2, h3, h4⟩
def spInit2 (C : Addr) : Sp := fun vs H Q _ => ∃ (x dx t : Addr) (sg : List Nat) (st : Sts) (H0 : Hp), vs = [.ref x, .str (SX.S sg), .ref t] ∧ H x = some (.ins C dx []) ∧ dx ≠ x ∧ H0 x = none ∧ H0 dx = none ∧ Same H0 H ∧ StsT H0 t st ∧ SgOk sg ∧ StsOk sg st ∧
  ∀ H' : Hp, Same H0 H' → RuN H0 H' x C sg st → Q .non H'
abbrev s_m_init : Stmt := inClass (top 27) 1
theorem sc_m_init : FnScope ["self", "signs", "states", "state", "sign"] ["self", "signs", "states"] (defScope s_m_init) := ⟨rfl, rfl, rfl, by decide +kernel, rfl, by decide +kernel, by decide +kernel⟩
theorem fn_init2 (Z : Rx K mg C) (F : L2.Fun K "__init__" "Rule.__init__" s_m_init f fd) (C_p_req : CalP P w K mg base CX0 2 "require_signs" spReq) (C_p_states : CalP P w K mg base CX0 3 "are_states" spStates) : FnOk P w K mg base CX0 4 f fd ["self", "signs", "states"] (spInit2 C) := by
  refine F.ok sc_m_init (fun vs H Q E h => ?_) (fun cdv A outer s H vs Q E hr h => ?_)
  · obtain ⟨x, dx, t, sg, st, H0, rfl, _⟩ := h
    rfl
  · obtain ⟨x, dx, t, sg, st, H0, rfl, hx, hne, h0x, h0d, sm, hst, sgo, ok, kt⟩ := h
    refine ⟨_, pss_cons (ps_expr (pcP C_p_req hr (pa_cons (pv 1) pa_nil)))
      (pss_cons (ps_if (pt_not (pt_val (pcP C_p_states hr (pa_cons (pv 1) (pa_cons (pv 2) pa_nil)))))
        (pss_one ps_never)
        pss_nil)
      (pss_cons (ps_sl (pv 0) (pv 1))
      (pss_cons (ps_sl (pv 0) (pe_lc (own := [("state", 3)]) (te := (tDc (iStr (tVar 1)) (gName 4) (tTest (tDIn (tVar 4) (tOp (rIxT K) (tVar 3) (tC (.int 0))))) (tVar 4) (tDGet (tOp (rIxT K) (tVar 3) (tC (.int 0))) (tVar 4)) [4])) rfl sc_m_init.nd (pi_tup (pv 2)) (blkOk_by (N := ["self", "signs", "states", "state", "sign"]) (sc := defScope s_m_init) (by decide +kernel)) (fun _ _ _ _ _ => (pg_name (i := 3) sc_m_init.nd rfl (Or.inr rfl))) (fun _ _ _ _ _ => pts_nil) (fun _ _ _ _ _ => (pe_dc (own := [("sign", 4)]) (tk := (tVar 4)) (tt := (tTest (tDIn (tVar 4) (tOp (rIxT K) (tVar 3) (tC (.int 0)))))) (tv := (tDGet (tOp (rIxT K) (tVar 3) (tC (.int 0))) (tVar 4))) rfl sc_m_init.nd (pi_str (pv 1)) (blkOk_by (N := ["self", "signs", "states", "state", "sign"]) (sc := { kind := .function, names := [(".0", .local), ("state", .cell), ("signs", .cell)], isGenerator := false, isCoroutine := false }) (by decide +kernel)) (fun _ _ _ _ _ => (pg_name (i := 4) sc_m_init.nd rfl (Or.inl rfl))) (fun _ _ _ _ _ => (pts_one (pt_cmp (pc_din (hu_of hr) (pv 4) (pe_ix ix_tup (pv 3) pe_int (fun _ _ => rfl)))))) (fun _ _ _ _ _ => (pv 4)) (fun _ _ _ _ _ => (pe_dget (hu_of hr) (pe_ix ix_tup (pv 3) pe_int (fun _ _ => rfl)) (pv 4) (fun _ _ => rfl)))))))
      (pss_one (ps_sl (pv 0) (pe_lc (own := [("state", 3)]) (te := (tOp (rIxT K) (tVar 3) (tC (.int 1)))) rfl sc_m_init.nd (pi_tup (pv 2)) (blkOk_by (N := ["self", "signs", "states", "state", "sign"]) (sc := defScope s_m_init) (by decide +kernel)) (fun _ _ _ _ _ => (pg_name (i := 3) sc_m_init.nd rfl (Or.inl rfl))) (fun _ _ _ _ _ => pts_nil) (fun _ _ _ _ _ => (pe_ix ix_tup (pv 3) pe_int (fun _ _ => rfl))))))))), ?_⟩
    obtain ⟨p0, t0⟩ := Z.t0
    obtain ⟨p1, t1⟩ := Z.t1
    obtain ⟨p2, t2⟩ := Z.t2
    refine ⟨_, rfl, _, rfl, sgo.tok, sgo.ok, fun H1 e1 => ?_⟩
    refine ⟨_, rfl, _, rfl, _, _, st, rfl, (hst.le sm).le e1, ok, fun H2 e2 => ⟨_, rfl, ?_⟩⟩
    refine iteF ?_
    have s1 := (sm.trans e1).trans e2
    refine ⟨_, rfl, _, rfl, x, C, dx, p2, [], 2, rfl, .inl ⟨e2 _ _ (e1 _ _ hx), rfl⟩, Z.sc, t2, ?_⟩
    have s3 : Same H0 (slH H2 x C dx (putS 2 (V.str (SX.S sg)) [])) := slH_same s1 h0x h0d
    have x3 : Slt (slH H2 x C dx (putS 2 (V.str (SX.S sg)) [])) x C dx [none, none, some (.str (SX.S sg))] := slH_slt hne
    generalize slH H2 x C dx (putS 2 (V.str (SX.S sg)) []) = H3 at s3 x3
    obtain ⟨as, h1, h2⟩ := hst.le s3
    have la : as.length = st.length := paired_len h2
    have nd := sgo.nodup
    have lsg := sgo.len
    refine ⟨_, rfl, t, rfl, ⟨_, SqT.of h1⟩, fun D hD => ?_⟩
    refine lc_it (walk_tup (xs := as.map V.ref)) (fun i H5 => Same H3 H5 ∧ ∃ es : List Addr, H5 D = some (.lst (es.map V.ref)) ∧ Paired (fun d (p : Row × Bool) => RowAt H5 d p.1) es (st.take i) ∧ ∀ d ∈ es, H0 d = none) ?_ ?_ ?_ ?_
    · exact ⟨same_upd (Same.refl H3) hD, [], upd_same, .nil, fun _ h => (nomatch h)⟩
    · rintro i H5 _ ⟨g1, _⟩
      exact SqT.of (g1 _ _ h1)
    · rintro i y H5 H6 hi ⟨g1, es, g2, g3, g4⟩ ⟨rfl, hy⟩
      rw [List.getElem?_map] at hy
      obtain ⟨a, ha, rfl⟩ := Option.map_eq_some_iff.mp hy
      obtain ⟨⟨r, gd⟩, hp, d, a1, a2⟩ := paired_get h2 ha
      have a1 : H3 a = some (.tup [.ref d, .bl gd]) := a1
      have a2 : H3 d = some (.dK (kRow r)) := a2
      rw [List.length_map, la] at hi
      have ro := ok.rows _ (List.mem_of_getElem? hp)
      have les : es.length ≤ 6 := by
        have := paired_len g3
        rw [List.length_take] at this
        have := ok.most
        omega
      refine ⟨rfl, _, rfl, _, rfl, fun E hE => ?_⟩
      have nED : D ≠ E := ne_of_none g2 hE
      refine dc_it walk_str (fun j H7 => Same H6 H7 ∧ H7 E = some (.dK (kRow (norm (sg.take j) r)))) ?_ ?_ ?_ ?_
      · exact ⟨same_upd (Same.refl H6) hE, upd_same⟩
      · exact fun _ _ _ _ => trivial
      · rintro j y H7 H8 hj ⟨f1, f2⟩ ⟨rfl, c, hc, rfl⟩
        have hc' : sg[j]? = some c := by rw [← Array.getElem?_toList] at hc; exact hc
        have b1 := f1 _ _ (g1 _ _ a1)
        have b2 := f1 _ _ (g1 _ _ a2)
        have g := DGet.k (k := .inr ⟨#[c]⟩) b2
        rw [valV_row] at g
        refine ⟨rfl, _, rfl, _, rfl, a, _, 0, .ref d, rfl, rfl, SqT.of b1, rfl, d, _, rfl, g, _, rfl, ?_⟩
        rw [norm_snoc hc']
        cases q : lk r c with
        | none =>
          refine iteF ⟨f1, ?_⟩
          rw [List.append_nil]
          exact f2
        | some n =>
          rw [q] at g
          refine iteT ?_
          refine ⟨_, rfl, _, rfl, a, _, 0, .ref d, rfl, rfl, SqT.of b1, rfl, _, rfl, d, _, rfl, g, _, .inr ⟨#[c]⟩, rfl, f2, ?_, same_mut f1 hE, ?_⟩
          · have := norm_len (sg := sg.take j) (r := r)
            rw [List.length_take] at this
            unfold kRow
            rw [List.length_map, sizeLine_eq]; omega
          · rw [upd_same, put_row kRow_keys (take_not_mem nd hc')]
            unfold kRow
            rw [List.map_append]; rfl
      · rintro H7 ⟨f1, f2⟩
        have e9 : sg.take (SX.S sg).cps.size = sg := List.take_of_length_le (Nat.le_of_eq (len_cps (SX.S sg)).symm)
        rw [e9, norm_eq ro.sub nd] at f2
        refine ⟨_, f1 _ _ g2, by rw [List.length_map, sizeLine_eq]; omega, same_mut (g1.trans f1) hD, es ++ [E], by rw [upd_same, List.map_append]; rfl, ?_, fun e he => by
          rcases List.mem_append.mp he with he | he
          · exact g4 e he
          · rw [List.mem_singleton.mp he]
            exact (s3.trans g1).free hE⟩
        rw [take_snoc hp]
        have hle : ∀ b (p : Row × Bool), RowAt H6 b p.1 → RowAt (upd H7 D (.lst (es.map V.ref ++ [.ref E]))) b p.1 := fun b p hb => by
          show (upd _ D _) b = _
          rw [upd_ne (ne_of hb g2 (by intro z; cases z))]
          exact f1 _ _ hb
        refine paired_snoc (L2.Paired.mapP g3 hle) ?_
        show (upd _ D _) E = _
        rw [upd_ne nED.symm]
        exact f2
    · rintro H5 ⟨g1, es, g2, g3, g4⟩
      rw [List.length_map, la, List.take_of_length_le (Nat.le_refl _)] at g3
      refine ⟨_, rfl, x, C, dx, p1, _, 1, rfl, slt_mono x3 g1, Z.sc, t1, ?_⟩
      have x5 := slt_mono x3 g1
      have e6 : putS 1 (V.ref D) [none, none, some (.str (SX.S sg))] = [none, some (.ref D), some (.str (SX.S sg))] := rfl
      rw [e6]
      have s6 : Same H0 (slH H5 x C dx [none, some (.ref D), some (.str (SX.S sg))]) := slH_same (s3.trans g1) h0x h0d
      have x6 : Slt (slH H5 x C dx [none, some (.ref D), some (.str (SX.S sg))]) x C dx [none, some (.ref D), some (.str (SX.S sg))] := slH_slt hne
      have d6 : (slH H5 x C dx [none, some (.ref D), some (.str (SX.S sg))]) D = some (.lst (es.map V.ref)) := slH_keep x5 g2 trivial
      have r6 : Paired (fun d (p : Row × Bool) => RowAt (slH H5 x C dx [none, some (.ref D), some (.str (SX.S sg))]) d p.1) es st := L2.Paired.mapP g3 fun _ _ hb => slH_keep x5 hb trivial
      generalize slH H5 x C dx [none, some (.ref D), some (.str (SX.S sg))] = H6 at s6 x6 d6 r6
      obtain ⟨as2, h3, h4⟩ := hst.le s6
      have la2 : as2.length = st.length := paired_len h4
      refine ⟨_, rfl, t, rfl, ⟨_, SqT.of h3⟩, fun D2 hD2 => ?_⟩
      refine lc_it (walk_tup (xs := as2.map V.ref)) (fun i H7 => Same H6 H7 ∧ H7 D2 = some (.lst ((st.take i).map fun p => V.bl p.2))) ?_ ?_ ?_ ?_
      · exact ⟨same_upd (Same.refl H6) hD2, upd_same⟩
      · rintro i H7 _ ⟨f1, _⟩
        exact SqT.of (f1 _ _ h3)
      · rintro i y H7 H8 hi ⟨f1, f2⟩ ⟨rfl, hy⟩
        rw [List.getElem?_map] at hy
        obtain ⟨a, ha, rfl⟩ := Option.map_eq_some_iff.mp hy
        obtain ⟨⟨r, gd⟩, hp, d, a1, a2⟩ := paired_get h4 ha
        refine ⟨rfl, _, rfl, a, _, 1, .bl gd, rfl, rfl, SqT.of (f1 _ _ a1), rfl, _, f2, ?_, same_mut f1 hD2, ?_⟩
        · have := ok.most
          rw [List.length_map, List.length_take, sizeLine_eq]; omega
        · rw [upd_same, take_snoc hp, List.map_append]; rfl
      · rintro H7 ⟨f1, f2⟩
        rw [List.length_map, la2, List.take_of_length_le (Nat.le_refl _)] at f2
        refine ⟨_, rfl, x, C, dx, p0, _, 0, rfl, slt_mono x6 f1, Z.sc, t0, ?_⟩
        have x7 := slt_mono x6 f1
        have e8 : putS 0 (V.ref D2) [none, some (.ref D), some (.str (SX.S sg))] = [some (.ref D2), some (.ref D), some (.str (SX.S sg))] := rfl
        rw [e8]
        exact kt _ (slH_same (s6.trans f1) h0x h0d) ⟨dx, D2, D, es, slH_slt hne, slH_keep x7 f2 trivial, slH_keep x7 (f1 _ _ d6) trivial, L2.Paired.mapP r6 fun _ _ hb => slH_keep x7 (f1 _ _ hb) trivial, g4⟩
theorem fn_init (Z : Rx K mg C) (F : L2.Fun K "__init__" "Rule.__init__" s_m_init f fd) (C_p_req : CalP P w K mg base CX0 2 "require_signs" spReq) (C_p_states : CalP P w K mg base CX0 3 "are_states" spStates) : FnOk P w K mg base CX0 4 f fd ["self", "signs", "states"] (spInit C) := by
  have F2 := fn_init2 Z F C_p_req C_p_states
  have imp : ∀ vs H Q E, spInit C vs H Q E → spInit2 C vs H Q E := fun vs H Q E ⟨x, dx, t, sg, st, H0, a1, a2, a3, a4, a5, a6, a7, a8, a9, k⟩ => ⟨x, dx, t, sg, st, H0, a1, a2, a3, a4, a5, a6, a7, a8, a9, fun H' e ru => k H' e ru.ru⟩
  exact ⟨fun vs H Q E h => F2.len vs H Q E (imp vs H Q E h), fun A outer s H args us vs Q E hr e0 b r h => F2.run A outer s H args us vs Q E hr e0 b r (imp vs H Q E h)⟩
end
end Fs
namespace Fs
open PySem PySem.Spec PyProof.Rows L2 SlX RZ
/-- a state whose row H does not know -/
def StN (H H' : Hp) (a : Addr) (p : Row × Bool) : Prop := ∃ d, H' a = some (.tup [.ref d, .bl p.2]) ∧ RowAt H' d p.1 ∧ H d = none
def StsN (H H' : Hp) (t : Addr) (s : Sts) : Prop := ∃ as : List Addr, H' t = some (.tup (as.map V.ref)) ∧ Paired (StN H H') as s
theorem StsN.sts {H H' : Hp} {t : Addr} {s : Sts} (h : StsN H H' t s) : StsT H' t s := by
  obtain ⟨as, h1, h2⟩ := h
  exact ⟨as, h1, L2.Paired.mapP h2 fun _ _ ⟨d, a, b, _⟩ => ⟨d, a, b⟩⟩
theorem paired_take_snoc {α β : Type} {F : α → β → Prop} {l : List α} {s : List β} {i : Nat} {a : α} {b : β} (h : Paired F l (s.take i)) (hb : s[i]? = some b) (r : F a b) : Paired F (l ++ [a]) (s.take (i + 1)) := by
  rw [take_snoc hb]
  exact paired_snoc h r
section
variable {P : Program} {w : World} {K : PySem.W.Frag} {mg : Str → Option Value} {base : Heap} {C TM : Addr} {f : Addr} {fd : FuncData}
def spSt (C : Addr) : Sp := fun vs H Q _ => ∃ (x : Addr) (sg : List Nat) (st : Sts), vs = [.ref x] ∧ RuAt H x C sg st ∧ st.length ≤ 6 ∧ ∀ (t : Addr) (H' : Hp), Same H H' → StsN H H' t st → Q (.ref t) H'
abbrev s_m_states : Stmt := inClass (top 27) 5
theorem sc_m_states : FnScope ["self", "moves", "good"] ["self"] (defScope s_m_states) := ⟨rfl, rfl, rfl, by decide +kernel, rfl, by decide +kernel, by decide +kernel⟩
theorem fn_states (T : Bs mg) (Z : Rx K mg C) (F : L2.Fun K "states" "Rule.states" s_m_states f fd) : FnOk P w K mg base CX0 1 f fd ["self"] (spSt C) := by
  refine F.ok sc_m_states (fun vs H Q E h => ?_) (fun cdv A outer s H vs Q E hr h => ?_)
  · obtain ⟨x, sg, st, rfl, _⟩ := h
    rfl
  · obtain ⟨x, sg, st, rfl, ⟨dx, lg, lm, ds, sl, h1, h2, h3⟩, ok, k⟩ := h
    refine ⟨_, pss_one (ps_ret (pt call_tuple_of T.z_tuple (pa_cons (pe_lc (own := [("moves", 1), ("good", 2)]) (te := (tTup (tCons (tCB rDictD (tCons (tVar 1) tNil)) (tCons (tVar 2) tNil)))) (g := gTup K 2 (gCons (gName 1) (gCons (gName 2) gNil))) rfl sc_m_states.nd (pi_zip rfl T.z_zip (pa_cons (pe_sl (pv 0)) (pa_cons (pe_sl (pv 0)) pa_nil))) (blkOk_by (N := ["self", "moves", "good"]) (sc := defScope s_m_states) (by decide +kernel)) (fun _ _ _ _ _ => (pg_tup rfl (pgs_cons (pg_name (i := 1) sc_m_states.nd rfl (Or.inl rfl)) (pgs_cons (pg_name (i := 2) sc_m_states.nd rfl (Or.inl rfl)) pgs_nil)))) (fun _ _ _ _ _ => pts_nil) (fun _ _ _ _ _ => (pe_tup (pa_cons (pt call_dictDx T.z_dict (pa_cons (pv 1) pa_nil)) (pa_cons (pv 2) pa_nil))))) pa_nil))), ?_⟩
    obtain ⟨p0, t0⟩ := Z.t0
    obtain ⟨p1, t1⟩ := Z.t1
    have ld : ds.length = st.length := paired_len h3
    refine ⟨_, rfl, x, C, dx, p1, _, 1, _, rfl, sl, Z.sc, t1, rfl, _, rfl, x, C, dx, p0, _, 0, _, rfl, sl, Z.sc, t0, rfl, ?_⟩
    refine ⟨lm, lg, _, _, rfl, SqL.of h2, SqL.of h1, fun D hD => ?_⟩
    refine lc_it (walk_zip (xs := ds.map V.ref) (ys := st.map fun p => V.bl p.2) (n := st.length) (by rw [List.length_map, List.length_map, ld, Nat.min_self])) (fun i H5 => Same H H5 ∧ ∃ as : List Addr, H5 D = some (.lst (as.map V.ref)) ∧ Paired (StN H H5) as (st.take i)) ?_ ?_ ?_ ?_
    · exact ⟨same_upd (Same.refl H) hD, [], upd_same, .nil⟩
    · rintro i H5 _ ⟨g1, _⟩
      exact ⟨SqL.of (g1 _ _ h2), SqL.of (g1 _ _ h1)⟩
    · rintro i y H5 H6 hi ⟨g1, as, g2, g3⟩ ⟨T1, x1, y1, rfl, hT1, rfl, hx1, hy1⟩
      have hx1 : (ds.map V.ref)[i]? = some x1 := hx1
      have hy1 : (st.map fun p => V.bl p.2)[i]? = some y1 := hy1
      rw [List.getElem?_map] at hx1 hy1
      obtain ⟨d, hd, rfl⟩ := Option.map_eq_some_iff.mp hx1
      obtain ⟨⟨r, gd⟩, hp, rfl⟩ := Option.map_eq_some_iff.mp hy1
      obtain ⟨p', hp', hrow⟩ := paired_get h3 hd
      rw [hp] at hp'
      obtain rfl : (r, gd) = p' := Option.some.inj hp'
      have hrow : H d = some (.dK (kRow r)) := hrow
      have e1 := same_upd (o := .tup [.ref d, .bl gd]) g1 hT1
      have g2' : (upd H5 T1 (.tup [.ref d, .bl gd])) D = some (.lst (as.map V.ref)) := by rw [upd_ne (ne_of_none g2 hT1)]; exact g2
      have g3' : Paired (StN H (upd H5 T1 (.tup [.ref d, .bl gd]))) as (st.take i) := L2.Paired.mapP g3 fun _ _ ⟨b, c1, c2, c3⟩ => ⟨b, (same_upd (Same.refl H5) hT1) _ _ c1, (same_upd (Same.refl H5) hT1) _ _ c2, c3⟩
      have las : as.length ≤ 6 := by
        have := paired_len g3
        rw [List.length_take] at this
        omega
      refine ⟨T1, _, rfl, SqT.of upd_same, rfl, _, _, rfl, _, _, rfl, rfl, rfl, _, rfl, d, _, rfl, .inl (e1 _ _ hrow), fun q hq => ?_⟩
      generalize upd H5 T1 (.tup [.ref d, .bl gd]) = H6 at e1 g2' g3' hq
      have e2 := same_upd (o := .dK (kRow r)) (Same.refl H6) hq
      have kq : (upd H6 q (.dK (kRow r))) q = some (.dK (kRow r)) := upd_same
      have hqn : H q = none := e1.free hq
      generalize upd H6 q (.dK (kRow r)) = H7 at e2 kq
      refine ⟨_, rfl, by show 2 ≤ sizeLine; decide, fun T2 hT2 => ?_⟩
      have e3 := same_upd (o := .tup [.ref q, .bl gd]) (Same.refl H7) hT2
      have kT2 : (upd H7 T2 (.tup [.ref q, .bl gd])) T2 = some (.tup [.ref q, .bl gd]) := upd_same
      generalize upd H7 T2 (.tup [.ref q, .bl gd]) = H8 at e3 kT2
      have g2'' := e3 _ _ (e2 _ _ g2')
      have e04 := (e1.trans e2).trans e3
      refine ⟨_, g2'', by rw [List.length_map, sizeLine_eq]; omega, same_mut e04 hD, as ++ [T2], by rw [upd_same, List.map_append]; rfl, ?_⟩
      have hle : ∀ b o, (∀ l, o ≠ .lst l) → H8 b = some o → (upd H8 D (.lst (as.map V.ref ++ [.ref T2]))) b = some o := fun b o ho hb => by
        rw [upd_ne (fun z => by rw [z, g2''] at hb; cases hb; exact ho _ rfl)]; exact hb
      refine paired_take_snoc (L2.Paired.mapP g3' fun a p ⟨b, c1, c2, c3⟩ => ?_) hp ?_
      · exact ⟨b, hle _ _ (by intro l z; cases z) (e3 _ _ (e2 _ _ c1)), hle _ _ (by intro l z; cases z) (e3 _ _ (e2 _ _ c2)), c3⟩
      · exact ⟨q, hle _ _ (by intro l z; cases z) kT2, hle _ _ (by intro l z; cases z) (e3 _ _ kq), hqn⟩
    · rintro H5 ⟨g1, as, g2, g3⟩
      rw [List.take_of_length_le (Nat.le_refl _)] at g3
      refine ⟨D, _, rfl, .inl ⟨SqL.of g2, fun u hu => ?_⟩⟩
      refine k u _ (same_upd g1 hu) ⟨as, upd_same, L2.Paired.mapP g3 fun _ _ ⟨b, c1, c2, c3⟩ => ⟨b, (same_upd (Same.refl H5) hu) _ _ c1, (same_upd (Same.refl H5) hu) _ _ c2, c3⟩⟩
/-- the tables: rows and goods, as states -/
structure TabT (H : Hp) (t : Addr) (st : Sts) : Prop where
  ex : ∃ (lm lg : Addr) (ds : List Addr), H t = some (.tup [.ref lm, .ref lg]) ∧ H lm = some (.lst (ds.map V.ref)) ∧ H lg = some (.lst (st.map fun p => .bl p.2)) ∧ Paired (fun d p => RowAt H d p.1) ds st
theorem TabT.le {H H' : Hp} (e : Same H H') {t : Addr} {st : Sts} (h : TabT H t st) : TabT H' t st := by
  obtain ⟨lm, lg, ds, h1, h2, h3, h4⟩ := h.ex
  exact ⟨lm, lg, ds, e _ _ h1, e _ _ h2, e _ _ h3, L2.Paired.mapP h4 fun _ _ h => e _ _ h⟩
def spRuleOf (C : Addr) : Sp := fun vs H Q _ => ∃ (t : Addr) (sg : List Nat) (st : Sts), vs = [.str (SX.S sg), .ref t] ∧ TabT H t st ∧ SgOk sg ∧ StsOk sg st ∧ ∀ (z : Addr) (H' : Hp), Same H H' → H z = none → RuAt H' z C sg st → Q (.ref z) H'
abbrev s_p_rule : Stmt := top 25
theorem sc_p_rule : FnScope ["signs", "table", "row", "good"] ["signs", "table"] (defScope s_p_rule) := ⟨rfl, rfl, rfl, by decide +kernel, rfl, by decide +kernel, by decide +kernel⟩
theorem cal_p_rule {fI : Addr} (T : Bs mg) (Z : Rx K mg C) (D : Df K mg "rule_of" s_p_rule ["signs", "table"]) (MK : L2.Mk K C fI) (F_init : FnR P w K mg base CX0 4 fI (spInit C)) : CalP P w K mg base CX0 6 "rule_of" (spRuleOf C) := by
  refine D.calP sc_p_rule (fun vs H Q E h => ?_) (fun f cdv A outer s H vs Q E hr h => ?_)
  · obtain ⟨t, sg, st, rfl, _⟩ := h
    rfl
  · obtain ⟨t, sg, st, rfl, tab, sgo, ok, k⟩ := h
    refine ⟨_, pss_one (ps_ret (StX.pe_makeR MK F_init (hr.mono (by decide)) rfl Z.gC pass0 (pa_cons (pv 0) (pa_cons (pt call_tuple_of T.z_tuple (pa_cons (pe_lc (own := [("row", 2), ("good", 3)]) (te := (tTup (tCons (tVar 2) (tCons (tVar 3) tNil)))) (g := gTup K 2 (gCons (gName 2) (gCons (gName 3) gNil))) rfl sc_p_rule.nd (pi_zip rfl T.z_zip (pa_cons (pe_ix ix_tup (pv 1) pe_int (fun _ _ => rfl)) (pa_cons (pe_ix ix_tup (pv 1) pe_int (fun _ _ => rfl)) pa_nil))) (blkOk_by (N := ["signs", "table", "row", "good"]) (sc := defScope s_p_rule) (by decide +kernel)) (fun _ _ _ _ _ => (pg_tup rfl (pgs_cons (pg_name (i := 2) sc_p_rule.nd rfl (Or.inl rfl)) (pgs_cons (pg_name (i := 3) sc_p_rule.nd rfl (Or.inl rfl)) pgs_nil)))) (fun _ _ _ _ _ => pts_nil) (fun _ _ _ _ _ => (pe_tup (pa_cons (pv 2) (pa_cons (pv 3) pa_nil))))) pa_nil)) pa_nil)))), ?_⟩
    obtain ⟨lm, lg, ds, h0, h2, h1, h3⟩ := tab.ex
    have ld : ds.length = st.length := paired_len h3
    refine ⟨_, rfl, _, rfl, t, _, 0, .ref lm, rfl, rfl, SqT.of h0, rfl, _, rfl, t, _, 1, .ref lg, rfl, rfl, SqT.of h0, rfl, ?_⟩
    refine ⟨lm, lg, _, _, rfl, SqL.of h2, SqL.of h1, fun D hD => ?_⟩
    refine lc_it (walk_zip (xs := ds.map V.ref) (ys := st.map fun p => V.bl p.2) (n := st.length) (by rw [List.length_map, List.length_map, ld, Nat.min_self])) (fun i H5 => Same H H5 ∧ ∃ as : List Addr, H5 D = some (.lst (as.map V.ref)) ∧ Paired (StAtt H5) as (st.take i)) ?_ ?_ ?_ ?_
    · exact ⟨same_upd (Same.refl H) hD, [], upd_same, .nil⟩
    · rintro i H5 _ ⟨g1, _⟩
      exact ⟨SqL.of (g1 _ _ h2), SqL.of (g1 _ _ h1)⟩
    · rintro i y H5 H6 hi ⟨g1, as, g2, g3⟩ ⟨T1, x1, y1, rfl, hT1, rfl, hx1, hy1⟩
      have hx1 : (ds.map V.ref)[i]? = some x1 := hx1
      have hy1 : (st.map fun p => V.bl p.2)[i]? = some y1 := hy1
      rw [List.getElem?_map] at hx1 hy1
      obtain ⟨d, hd, rfl⟩ := Option.map_eq_some_iff.mp hx1
      obtain ⟨⟨r, gd⟩, hp, rfl⟩ := Option.map_eq_some_iff.mp hy1
      obtain ⟨p', hp', hrow⟩ := paired_get h3 hd
      rw [hp] at hp'
      obtain rfl : (r, gd) = p' := Option.some.inj hp'
      have hrow : H d = some (.dK (kRow r)) := hrow
      have e1 := same_upd (o := .tup [.ref d, .bl gd]) g1 hT1
      have g2' : (upd H5 T1 (.tup [.ref d, .bl gd])) D = some (.lst (as.map V.ref)) := by rw [upd_ne (ne_of_none g2 hT1)]; exact g2
      have g3' : Paired (StAtt (upd H5 T1 (.tup [.ref d, .bl gd]))) as (st.take i) := L2.Paired.mapP g3 fun _ _ h => h.le (same_upd (Same.refl H5) hT1)
      have las : as.length ≤ 6 := by
        have := paired_len g3
        have := ok.most
        rw [List.length_take] at *
        omega
      refine ⟨T1, _, rfl, SqT.of upd_same, rfl, _, _, rfl, _, _, rfl, rfl, rfl, _, rfl, _, rfl, by show 2 ≤ sizeLine; decide, fun T2 hT2 => ?_⟩
      generalize upd H5 T1 (.tup [.ref d, .bl gd]) = H7 at e1 g2' g3' hT2
      have e3 := same_upd (o := .tup [.ref d, .bl gd]) (Same.refl H7) hT2
      have kT2 : (upd H7 T2 (.tup [.ref d, .bl gd])) T2 = some (.tup [.ref d, .bl gd]) := upd_same
      generalize upd H7 T2 (.tup [.ref d, .bl gd]) = H8 at e3 kT2
      have g2'' := e3 _ _ g2'
      have e04 := e1.trans e3
      refine ⟨_, g2'', by rw [List.length_map, sizeLine_eq]; omega, same_mut e04 hD, as ++ [T2], by rw [upd_same, List.map_append]; rfl, ?_⟩
      have hle : ∀ b o, (∀ l, o ≠ .lst l) → H8 b = some o → (upd H8 D (.lst (as.map V.ref ++ [.ref T2]))) b = some o := fun b o ho hb => by
        rw [upd_ne (fun z => by rw [z, g2''] at hb; cases hb; exact ho _ rfl)]; exact hb
      refine paired_take_snoc (L2.Paired.mapP g3' fun a p ⟨b, c1, c2⟩ => ?_) hp ?_
      · exact ⟨b, hle _ _ (by intro l z; cases z) (e3 _ _ c1), hle _ _ (by intro l z; cases z) (e3 _ _ c2)⟩
      · exact ⟨d, hle _ _ (by intro l z; cases z) kT2, hle _ _ (by intro l z; cases z) (e04 _ _ hrow)⟩
    · rintro H5 ⟨g1, as, g2, g3⟩
      rw [List.take_of_length_le (Nat.le_refl _)] at g3
      refine ⟨D, _, rfl, .inl ⟨SqL.of g2, fun u hu => ?_⟩⟩
      have e6 := same_upd (o := .tup (as.map V.ref)) (Same.refl H5) hu
      have k6 : (upd H5 u (.tup (as.map V.ref))) u = some (.tup (as.map V.ref)) := upd_same
      generalize upd H5 u (.tup (as.map V.ref)) = H6 at e6 k6
      have s6 : StsT H6 u st := ⟨as, k6, L2.Paired.mapP g3 fun _ _ h => h.le e6⟩
      have e06 := g1.trans e6
      intro x dx hx hdx hne
      have sm : Same H6 (upd (upd H6 dx (.own x)) x (.ins C dx [])) := fun b o q => by
        rw [upd_ne (ne_of_none q hx), upd_ne (ne_of_none q hdx)]; exact q
      exact ⟨x, dx, u, sg, st, H6, rfl, upd_same, hne, hx, hdx, sm, s6, sgo, ok, fun H' e' ru => ⟨rfl, k x H' (e06.trans e') (e06.free hx) ru⟩⟩
end
end Fs
namespace Fs
open PySem PySem.Spec PyProof.Rows L2 SlX RZ
/-! ### a search by breadth -/
section
variable {κ : Type} [DecidableEq κ]
/-- the place of a key -/
def ixOf (ks : List κ) (k : κ) : Nat := @List.idxOf κ instBEqOfDecidableEq k ks
def addK (ks : List κ) (x : κ) : List κ := if x ∈ ks then ks else ks ++ [x]
def addAll (ks xs : List κ) : List κ := xs.foldl addK ks
def bfs (nx : κ → List κ) : Nat → List κ → Nat → List κ
  | 0, ks, _ => ks
  | n + 1, ks, i => match ks[i]? with
    | none => ks
    | some k => bfs nx n (addAll ks (nx k)) (i + 1)
theorem addK_mem {ks : List κ} {x y : κ} : y ∈ addK ks x ↔ y ∈ ks ∨ y = x := by
  unfold addK
  by_cases h : x ∈ ks
  · rw [if_pos h]
    exact ⟨.inl, fun q => q.elim id fun e => e ▸ h⟩
  · rw [if_neg h, List.mem_append, List.mem_singleton]
theorem addK_nodup {ks : List κ} {x : κ} (h : ks.Nodup) : (addK ks x).Nodup := by
  unfold addK
  by_cases c : x ∈ ks
  · rw [if_pos c]; exact h
  · rw [if_neg c, List.nodup_append]
    exact ⟨h, by simp, fun u hu v hv e => c (by rw [← List.mem_singleton.mp hv, ← e]; exact hu)⟩
theorem addK_pre (ks : List κ) (x : κ) : ∃ l, addK ks x = ks ++ l := by
  unfold addK
  by_cases c : x ∈ ks
  · exact ⟨[], by rw [if_pos c, List.append_nil]⟩
  · exact ⟨[x], by rw [if_neg c]⟩
theorem addAll_snoc (ks xs : List κ) (x : κ) : addAll ks (xs ++ [x]) = addK (addAll ks xs) x := by
  unfold addAll
  rw [List.foldl_append]; rfl
theorem addAll_mem {xs : List κ} : ∀ {ks : List κ} {y : κ}, y ∈ addAll ks xs ↔ y ∈ ks ∨ y ∈ xs := by
  induction xs with
  | nil => intro ks y; simp [addAll]
  | cons x xs ih =>
    intro ks y
    show y ∈ addAll (addK ks x) xs ↔ _
    rw [ih, addK_mem, List.mem_cons, or_assoc]
theorem addAll_nodup {xs : List κ} : ∀ {ks : List κ}, ks.Nodup → (addAll ks xs).Nodup := by
  induction xs with
  | nil => intro ks h; exact h
  | cons x xs ih => intro ks h; exact ih (addK_nodup h)
theorem addAll_pre {xs : List κ} : ∀ (ks : List κ), ∃ l, addAll ks xs = ks ++ l := by
  induction xs with
  | nil => intro ks; exact ⟨[], by rw [List.append_nil]; rfl⟩
  | cons x xs ih =>
    intro ks
    obtain ⟨l, h⟩ := addK_pre ks x
    obtain ⟨m, g⟩ := ih (addK ks x)
    exact ⟨l ++ m, by show addAll (addK ks x) xs = _; rw [g, h, List.append_assoc]⟩
/-- where the search stands: so many places are done -/
structure At (nx : κ → List κ) (U : List κ) (R ks : List κ) (i : Nat) : Prop where
  le : i ≤ ks.length
  nd : ks.Nodup
  sub : ∀ k ∈ ks, k ∈ U
  cl : ∀ j k, j < i → ks[j]? = some k → ∀ x ∈ nx k, x ∈ ks
  res : bfs nx (U.length - i) ks i = R
theorem nodup_len : ∀ {l U : List κ}, l.Nodup → (∀ k ∈ l, k ∈ U) → l.length ≤ U.length
  | [], _, _, _ => Nat.zero_le _
  | x :: l, U, h, s => by
    have h' := List.nodup_cons.mp h
    have hx : x ∈ U := s x (List.mem_cons_self ..)
    have hl := List.length_erase_of_mem hx
    have h0 : 0 < U.length := List.length_pos_of_mem hx
    have := nodup_len (U := U.erase x) h'.2 fun k hk => (List.mem_erase_of_ne (fun e => h'.1 (by rw [← e]; exact hk))).mpr (s k (List.mem_cons_of_mem _ hk))
    rw [List.length_cons]; omega
theorem At.turn {nx : κ → List κ} {U R ks : List κ} {i : Nat} {k : κ} (a : At nx U R ks i) (hU : ∀ k ∈ U, ∀ x ∈ nx k, x ∈ U) (h : ks[i]? = some k) : At nx U R (addAll ks (nx k)) (i + 1) := by
  have hi : i < ks.length := (List.getElem?_eq_some_iff.mp h).1
  have hl := nodup_len a.nd a.sub
  have hk : k ∈ ks := List.mem_of_getElem? h
  obtain ⟨l, hp⟩ := addAll_pre (xs := nx k) ks
  have hle : i + 1 ≤ (addAll ks (nx k)).length := by rw [hp, List.length_append]; omega
  refine ⟨hle, addAll_nodup a.nd, fun y hy => ?_, fun j k' hj hk' x hx => ?_, ?_⟩
  · rcases addAll_mem.mp hy with hy | hy
    · exact a.sub y hy
    · exact hU k (a.sub k hk) y hy
  · rw [hp, List.getElem?_append_left (by omega)] at hk'
    rw [addAll_mem]
    by_cases e : j = i
    · subst e
      rw [h] at hk'
      obtain rfl : k = k' := Option.some.inj hk'
      exact .inr hx
    · exact .inl (a.cl j k' (by omega) hk' x hx)
  · have e : U.length - i = (U.length - (i + 1)) + 1 := by omega
    have r := a.res
    rw [e] at r
    unfold bfs at r
    rw [h] at r
    exact r
theorem At.done {nx : κ → List κ} {U R ks : List κ} {i : Nat} (a : At nx U R ks i) (h : ks.length ≤ i) : ks = R := by
  have r := a.res
  cases e : U.length - i with
  | zero => rw [e] at r; exact r
  | succ n =>
    rw [e] at r
    unfold bfs at r
    rw [List.getElem?_eq_none h] at r
    exact r
theorem At.start {nx : κ → List κ} {U : List κ} {k : κ} (h : k ∈ U) : At nx U (bfs nx U.length [k] 0) [k] 0 :=
  ⟨Nat.zero_le _, by simp, fun x hx => by rw [List.mem_singleton.mp hx]; exact h, fun j _ hj => absurd hj (Nat.not_lt_zero _), rfl⟩
/-- the search ended -/
theorem At.closed {nx : κ → List κ} {U R ks : List κ} {i : Nat} (a : At nx U R ks i) (h : ks.length ≤ i) : R.Nodup ∧ (∀ k ∈ R, ∀ x ∈ nx k, x ∈ R) ∧ (∀ k ∈ R, k ∈ U) := by
  have e := a.done h
  subst e
  refine ⟨a.nd, fun k hk x hx => ?_, a.sub⟩
  obtain ⟨j, hj, e⟩ := List.getElem_of_mem hk
  have := a.le
  exact a.cl j k (by omega) (List.getElem?_eq_some_iff.mpr ⟨hj, e⟩) x hx
end
/-! ### rules met -/
def rowAt (s : Sts) (i : Nat) : Row := (s.getD i ([], false)).1
def goodAt (s : Sts) (i : Nat) : Bool := (s.getD i ([], false)).2
abbrev Key2 := Nat × Nat
def metNx (sg : List Nat) (s1 s2 : Sts) (k : Key2) : List (Nat × Key2) := sg.filterMap fun c => match lk (rowAt s1 k.1) c, lk (rowAt s2 k.2) c with
  | some x, some y => some (c, (x, y))
  | _, _ => none
def pairsU (s1 s2 : Sts) : List Key2 := (List.range s1.length).flatMap fun i => (List.range s2.length).map fun j => (i, j)
def metKs (sg : List Nat) (s1 s2 : Sts) : List Key2 := bfs (fun k => (metNx sg s1 s2 k).map (·.2)) (pairsU s1 s2).length [(0, 0)] 0
def met (sg : List Nat) (s1 s2 : Sts) : Sts := (metKs sg s1 s2).map fun k => ((metNx sg s1 s2 k).map fun p => (p.1, ixOf (metKs sg s1 s2) p.2), goodAt s1 k.1 && goodAt s2 k.2)
theorem mem_pairsU {s1 s2 : Sts} {k : Key2} : k ∈ pairsU s1 s2 ↔ k.1 < s1.length ∧ k.2 < s2.length := by
  unfold pairsU
  rw [List.mem_flatMap]
  constructor
  · rintro ⟨i, hi, h⟩
    obtain ⟨j, hj, rfl⟩ := List.mem_map.mp h
    exact ⟨List.mem_range.mp hi, List.mem_range.mp hj⟩
  · rintro ⟨h1, h2⟩
    exact ⟨k.1, List.mem_range.mpr h1, List.mem_map.mpr ⟨k.2, List.mem_range.mpr h2, rfl⟩⟩
theorem lk_lt {sg : List Nat} {n : Nat} {r : Row} {c x : Nat} (h : RowOk sg n r) (e : lk r c = some x) : x < n := h.lt _ (lk_mem e)
/-- rows for so many states -/
def RowsOk (sg : List Nat) (s : Sts) : Prop := ∀ p ∈ s, RowOk sg s.length p.1
theorem rowAt_ok {sg : List Nat} {s : Sts} {i : Nat} (h : RowsOk sg s) (hi : i < s.length) : RowOk sg s.length (rowAt s i) := by
  unfold rowAt
  rw [List.getD_eq_getElem?_getD, List.getElem?_eq_getElem hi]
  exact h _ (List.getElem_mem hi)
theorem metNx_mem {sg : List Nat} {s1 s2 : Sts} {k : Key2} {p : Nat × Key2} (h : p ∈ metNx sg s1 s2 k) : p.1 ∈ sg ∧ lk (rowAt s1 k.1) p.1 = some p.2.1 ∧ lk (rowAt s2 k.2) p.1 = some p.2.2 := by
  obtain ⟨c, hc, e⟩ := List.mem_filterMap.mp h
  split at e
  · rename_i x y h1 h2
    cases e
    exact ⟨hc, h1, h2⟩
  · cases e
theorem metNx_U {sg : List Nat} {s1 s2 : Sts} (h1 : RowsOk sg s1) (h2 : RowsOk sg s2) : ∀ k ∈ pairsU s1 s2, ∀ x ∈ (metNx sg s1 s2 k).map (·.2), x ∈ pairsU s1 s2 := fun k hk x hx => by
  obtain ⟨p, hp, rfl⟩ := List.mem_map.mp hx
  obtain ⟨_, a, b⟩ := metNx_mem hp
  obtain ⟨k1, k2⟩ := mem_pairsU.mp hk
  exact mem_pairsU.mpr ⟨lk_lt (rowAt_ok h1 k1) a, lk_lt (rowAt_ok h2 k2) b⟩
/-! ### rules turned -/
def turNx (sg : List Nat) (s : Sts) (k : Option Nat) : List (Nat × Option Nat) := sg.map fun c => (c, k.bind fun i => lk (rowAt s i) c)
def optU (s : Sts) : List (Option Nat) := none :: (List.range s.length).map some
def turKs (sg : List Nat) (s : Sts) : List (Option Nat) := bfs (fun k => (turNx sg s k).map (·.2)) (optU s).length [some 0] 0
def turned (sg : List Nat) (s : Sts) : Sts := (turKs sg s).map fun k => ((turNx sg s k).map fun p => (p.1, ixOf (turKs sg s) p.2), match k with | none => true | some i => !goodAt s i)
theorem mem_optU {s : Sts} {k : Option Nat} : k ∈ optU s ↔ ∀ i, k = some i → i < s.length := by
  unfold optU
  rw [List.mem_cons]
  constructor
  · rintro (rfl | h) i e
    · cases e
    · obtain ⟨j, hj, rfl⟩ := List.mem_map.mp h
      cases e
      exact List.mem_range.mp hj
  · intro h
    cases k with
    | none => exact .inl rfl
    | some i => exact .inr (List.mem_map.mpr ⟨i, List.mem_range.mpr (h i rfl), rfl⟩)
theorem turNx_U {sg : List Nat} {s : Sts} (h : RowsOk sg s) : ∀ k ∈ optU s, ∀ x ∈ (turNx sg s k).map (·.2), x ∈ optU s := fun k hk x hx => by
  obtain ⟨p, hp, rfl⟩ := List.mem_map.mp hx
  obtain ⟨c, hc, rfl⟩ := List.mem_map.mp hp
  refine mem_optU.mpr fun i e => ?_
  cases k with
  | none => cases e
  | some j => exact lk_lt (rowAt_ok h (mem_optU.mp hk j rfl)) e
end Fs
namespace Fs
open PySem PySem.Spec PyProof.Rows L2 SlX RZ
/-! ### the moves of two rules that are met -/
def PtAt (H : Hp) (p : Addr) (k : Key2) : Prop := H p = some (.tup [.int (k.1 : Nat), .int (k.2 : Nat)])
def kMv (l : List (Nat × Key2)) (ps : List Addr) : List (Key × V) := (l.zip ps).map fun q => (.inr ⟨#[q.1.1]⟩, .ref q.2)
def MvT (H : Hp) (D : Addr) (l : List (Nat × Key2)) : Prop := ∃ ps : List Addr, H D = some (.dK (kMv l ps)) ∧ Paired (PtAt H) ps (l.map (·.2))
theorem metNx_snoc {sg : List Nat} {s1 s2 : Sts} {k : Key2} {i c : Nat} (h : sg[i]? = some c) : metNx (sg.take (i + 1)) s1 s2 k = metNx (sg.take i) s1 s2 k ++ (match lk (rowAt s1 k.1) c, lk (rowAt s2 k.2) c with
    | some x, some y => [(c, (x, y))]
    | _, _ => []) := by
  rw [take_snoc h]
  unfold metNx
  rw [List.filterMap_append]
  congr 1
  rw [List.filterMap_cons]
  cases lk (rowAt s1 k.1) c <;> cases lk (rowAt s2 k.2) c <;> rfl
theorem metNx_len {sg : List Nat} {s1 s2 : Sts} {k : Key2} : (metNx sg s1 s2 k).length ≤ sg.length := List.length_filterMap_le ..
theorem kMv_keys {sg : List Nat} {s1 s2 : Sts} {k : Key2} {ps : List Addr} : ∀ kv ∈ kMv (metNx sg s1 s2 k) ps, ∃ d ∈ sg, kv.1 = (.inr ⟨#[d]⟩ : Key) := fun kv h => by
  obtain ⟨q, hq, rfl⟩ := List.mem_map.mp h
  exact ⟨q.1.1, (metNx_mem (List.of_mem_zip hq).1).1, rfl⟩
theorem kMv_snoc {l : List (Nat × Key2)} {ps : List Addr} {m : Nat × Key2} {p : Addr} (h : l.length = ps.length) : kMv (l ++ [m]) (ps ++ [p]) = kMv l ps ++ [(.inr ⟨#[m.1]⟩, .ref p)] := by
  unfold kMv
  rw [List.zip_append h, List.map_append]; rfl
theorem kMv_len {l : List (Nat × Key2)} {ps : List Addr} : (kMv l ps).length ≤ l.length := by
  unfold kMv
  rw [List.length_map, List.length_zip]; omega
/-- a table's row -/
theorem TabT.row {H : Hp} {st : Sts} {lm : Addr} {ds : List Addr} (h4 : Paired (fun d (p : Row × Bool) => RowAt H d p.1) ds st) {i : Nat} (hi : i < st.length) : ∃ d, (ds.map V.ref)[i]? = some (.ref d) ∧ H d = some (.dK (kRow (rowAt st i))) := by
  have ld := paired_len h4
  obtain ⟨p, hp, hr⟩ := paired_get h4 (List.getElem?_eq_getElem (by omega : i < ds.length))
  refine ⟨ds[i], by rw [List.getElem?_map, List.getElem?_eq_getElem (by omega : i < ds.length)]; rfl, ?_⟩
  unfold rowAt
  rw [List.getD_eq_getElem?_getD, hp]
  exact hr
section
variable {P : Program} {w : World} {K : PySem.W.Frag} {mg : Str → Option Value} {base : Heap} {C TM : Addr} {f : Addr} {fd : FuncData}
def spMm : Sp := fun vs H Q _ => ∃ (t1 t2 kt : Addr) (sg : List Nat) (s1 s2 : Sts) (k : Key2), vs = [.str (SX.S sg), .ref t1, .ref t2, .ref kt] ∧ TabT H t1 s1 ∧ TabT H t2 s2 ∧ PtAt H kt k ∧ k.1 < s1.length ∧ k.2 < s2.length ∧ sg.Nodup ∧ sg.length ≤ 4 ∧
  ∀ (D : Addr) (H' : Hp), Same H H' → H D = none → MvT H' D (metNx sg s1 s2 k) → Q (.ref D) H'
abbrev s_p_mm : Stmt := top 20
theorem sc_p_mm : FnScope ["signs", "one", "other", "key", "first", "second", "sign"] ["signs", "one", "other", "key"] (defScope s_p_mm) := ⟨rfl, rfl, rfl, by decide +kernel, rfl, by decide +kernel, by decide +kernel⟩
theorem cal_p_mm (D : Df K mg "met_moves" s_p_mm ["signs", "one", "other", "key"]) : CalP P w K mg base CX0 1 "met_moves" spMm := by
  refine D.calP sc_p_mm (fun vs H Q E h => ?_) (fun f cdv A outer s H vs Q E hr h => ?_)
  · obtain ⟨t1, t2, kt, sg, s1, s2, k, rfl, _⟩ := h
    rfl
  · obtain ⟨t1, t2, kt, sg, s1, s2, ⟨i, j⟩, rfl, tb1, tb2, hk, hi, hj, nd, lsg, q⟩ := h
    have hk : H kt = some (.tup [.int (i : Nat), .int (j : Nat)]) := hk
    have hi : i < s1.length := hi
    have hj : j < s2.length := hj
    refine ⟨_, pss_cons (ps_asg (pe_tup (pa_cons (pe_ix ix_list (pe_ix ix_tup (pv 1) pe_int (fun _ _ => rfl)) (pe_ix ix_tup (pv 3) pe_int (fun _ _ => rfl)) (fun _ _ => rfl)) (pa_cons (pe_ix ix_list (pe_ix ix_tup (pv 2) pe_int (fun _ _ => rfl)) (pe_ix ix_tup (pv 3) pe_int (fun _ _ => rfl)) (fun _ _ => rfl)) pa_nil))) (pg_tup rfl (pgs_cons (pg_name (i := 4) sc_p_mm.nd rfl (Or.inr rfl)) (pgs_cons (pg_name (i := 5) sc_p_mm.nd rfl (Or.inr rfl)) pgs_nil))))
      (pss_one (ps_ret (pe_dc (own := [("sign", 6)]) (tk := (tVar 6)) (tt := (tAnd (tTest (tDIn (tVar 6) (tVar 4))) (tTest (tDIn (tVar 6) (tVar 5))))) (tv := (tTup (tCons (tDGet (tVar 4) (tVar 6)) (tCons (tDGet (tVar 5) (tVar 6)) tNil)))) rfl sc_p_mm.nd (pi_str (pv 0)) (blkOk_by (N := ["signs", "one", "other", "key", "first", "second", "sign"]) (sc := defScope s_p_mm) (by decide +kernel)) (fun _ _ _ _ _ => (pg_name (i := 6) sc_p_mm.nd rfl (Or.inl rfl))) (fun _ _ _ _ _ => (pts_one (PW.pt (pw_and (pt_cmp (pc_din (hu_of hr) (pv 6) (pv 4))) (pw_and1 (pt_cmp (pc_din (hu_of hr) (pv 6) (pv 5)))))))) (fun _ _ _ _ _ => (pv 6)) (fun _ _ _ _ _ => (pe_tup (pa_cons (pe_dget (hu_of hr) (pv 4) (pv 6) (fun _ _ => rfl)) (pa_cons (pe_dget (hu_of hr) (pv 5) (pv 6) (fun _ _ => rfl)) pa_nil))))))), ?_⟩
    obtain ⟨lm1, lg1, ds1, a0, a1, a2, a3⟩ := tb1.ex
    obtain ⟨lm2, lg2, ds2, b0, b1, b2, b3⟩ := tb2.ex
    obtain ⟨d1, d1e, d1r⟩ := TabT.row (lm := lm1) a3 hi
    obtain ⟨d2, d2e, d2r⟩ := TabT.row (lm := lm2) b3 hj
    refine ⟨_, rfl, t1, _, 0, .ref lm1, rfl, rfl, SqT.of a0, rfl, _, rfl, kt, _, 0, .int (i : Nat), rfl, rfl, SqT.of hk, rfl, lm1, _, _, _, rfl, rfl, SqL.of a1, atI_nat d1e, ?_⟩
    refine ⟨_, rfl, t2, _, 0, .ref lm2, rfl, rfl, SqT.of b0, rfl, _, rfl, kt, _, 1, .int (j : Nat), rfl, rfl, SqT.of hk, rfl, lm2, _, _, _, rfl, rfl, SqL.of b1, atI_nat d2e, ?_⟩
    refine ⟨by show 2 ≤ sizeLine; decide, fun T hT => ?_⟩
    refine ⟨T, _, rfl, SqT.of upd_same, rfl, _, _, rfl, _, _, rfl, rfl, ?_⟩
    have e1 := same_upd (o := .tup [.ref d1, .ref d2]) (Same.refl H) hT
    generalize upd H T (.tup [.ref d1, .ref d2]) = H6 at e1
    refine ⟨_, rfl, _, rfl, fun D hD => ?_⟩
    refine dc_it walk_str (fun n H7 => Same H6 H7 ∧ MvT H7 D (metNx (sg.take n) s1 s2 (i, j))) ?_ ?_ ?_ ?_
    · exact ⟨same_upd (Same.refl H6) hD, [], upd_same, .nil⟩
    · exact fun _ _ _ _ => trivial
    · rintro n y H7 H8 hn ⟨f1, ps, f2, f3⟩ ⟨rfl, c, hc, rfl⟩
      have hc' : sg[n]? = some c := by rw [← Array.getElem?_toList] at hc; exact hc
      have g1 := DGet.k (k := .inr ⟨#[c]⟩) (f1 _ _ (e1 _ _ d1r))
      have g2 := DGet.k (k := .inr ⟨#[c]⟩) (f1 _ _ (e1 _ _ d2r))
      rw [valV_row] at g1 g2
      refine ⟨rfl, _, rfl, _, rfl, d1, _, rfl, g1, _, rfl, ?_⟩
      rw [metNx_snoc hc']
      cases q1 : lk (rowAt s1 i) c with
      | none =>
        refine iteF (iteF ⟨f1, ps, ?_⟩)
        rw [List.append_nil]
        exact ⟨f2, f3⟩
      | some x =>
        rw [q1] at g1
        refine iteT ⟨_, rfl, _, rfl, d2, _, rfl, g2, _, rfl, ?_⟩
        cases q2 : lk (rowAt s2 j) c with
        | none =>
          refine iteF ⟨f1, ps, ?_⟩
          rw [List.append_nil]
          exact ⟨f2, f3⟩
        | some y =>
          rw [q2] at g2
          refine iteT ⟨_, rfl, _, rfl, _, rfl, d1, _, rfl, g1, _, rfl, _, rfl, d2, _, rfl, g2, by show 2 ≤ sizeLine; decide, fun p hp => ?_⟩
          have np : D ≠ p := ne_of_none f2 hp
          have e2 := same_upd (o := .tup [.int (x : Nat), .int (y : Nat)]) (Same.refl H8) hp
          have lp : (metNx (sg.take n) s1 s2 (i, j)).length = ps.length := by
            have := paired_len f3
            rw [List.length_map] at this
            exact this.symm
          refine ⟨_, .inr ⟨#[c]⟩, rfl, e2 _ _ f2, ?_, same_mut (f1.trans e2) hD, ps ++ [p], ?_, ?_⟩
          · have h1 := kMv_len (l := metNx (sg.take n) s1 s2 (i, j)) (ps := ps)
            have h2 := metNx_len (sg := sg.take n) (s1 := s1) (s2 := s2) (k := (i, j))
            rw [List.length_take] at h2
            rw [sizeLine_eq]; omega
          · rw [upd_same, put_row kMv_keys (take_not_mem nd hc'), kMv_snoc lp]
          · rw [List.map_append]
            have hle : ∀ b o, (∀ l, o ≠ .dK l) → (upd H8 p (.tup [.int (x : Nat), .int (y : Nat)])) b = some o → (upd (upd H8 p (.tup [.int (x : Nat), .int (y : Nat)])) D (.dK (putK (kMv (metNx (sg.take n) s1 s2 (i, j)) ps) (.inr ⟨#[c]⟩) (.ref p)))) b = some o := fun b o ho hb => by
              rw [upd_ne (fun z => by rw [z, e2 _ _ f2] at hb; cases hb; exact ho _ rfl)]; exact hb
            exact paired_snoc (L2.Paired.mapP f3 fun a b h => hle _ _ (by intro l z; cases z) (e2 _ _ h)) (hle _ _ (by intro l z; cases z) upd_same)
    · rintro H7 ⟨f1, f2⟩
      have e9 : sg.take (SX.S sg).cps.size = sg := List.take_of_length_le (Nat.le_of_eq (len_cps (SX.S sg)).symm)
      rw [e9] at f2
      exact q D H7 (e1.trans f1) (e1.free hD) f2
end
end Fs
namespace Fs
open PySem PySem.Spec PyProof.Rows L2 SlX RZ
/-! ### keys as data -/
structure Enc {κ : Type} [DecidableEq κ] (D : κ → PyData) : Prop where
  lay : ∀ k, (D k).canLay0 = true
  dep : ∀ k, (D k).depth ≤ 2
  eq : ∀ a b, PyData.eqv (D a) (D b) = decide (a = b)
section
variable {κ : Type} [DecidableEq κ] {D : κ → PyData}
theorem Enc.lays (e : Enc D) : ∀ ks : List κ, PyData.canLayAll0 (ks.map D) = true
  | [] => by simp [PyData.canLayAll0]
  | k :: ks => by simp [PyData.canLayAll0, e.lay k, Enc.lays e ks]
theorem Enc.deps (e : Enc D) : ∀ ks : List κ, PyData.depthAll (ks.map D) ≤ 2
  | [] => by simp [PyData.depthAll]
  | k :: ks => by
    have h1 := Enc.deps e ks
    have h2 := e.dep k
    simp only [List.map_cons, PyData.depthAll]
    omega
theorem Enc.shaped (e : Enc D) (k : κ) : SeqAt.shaped (D k) = true := by
  have h := e.dep k
  show ((D k).canLay0 && decide ((D k).depth ≤ 64)) = true
  rw [Bool.and_eq_true]
  exact ⟨e.lay k, decide_eq_true (by omega)⟩
theorem Enc.shapeds (e : Enc D) (ks : List κ) : SeqAt.shaped (.list (ks.map D)) = true := by
  have h1 := e.deps ks
  have h2 : PyData.depth (.list (ks.map D)) ≤ 64 := by
    simp only [PyData.depth]
    omega
  show (PyData.canLay0 (.list (ks.map D)) && decide (PyData.depth (.list (ks.map D)) ≤ 64)) = true
  rw [Bool.and_eq_true]
  exact ⟨by simp only [PyData.canLay0]; exact e.lays ks, decide_eq_true h2⟩
theorem Enc.any (e : Enc D) (ks : List κ) (k : κ) : ((ks.map D).any fun z => PyData.eqv z (D k)) = decide (k ∈ ks) := by
  rw [List.any_map]
  induction ks with
  | nil => simp
  | cons a ks ih =>
    rw [List.any_cons, ih]
    show (PyData.eqv (D a) (D k) || decide (k ∈ ks)) = decide (k ∈ a :: ks)
    rw [e.eq]
    by_cases h : a = k
    · subst h; simp
    · by_cases g : k ∈ ks
      · simp [g]
      · have : k ≠ a := fun z => h z.symm
        simp [h, g, this]
theorem ixOf_get {ks : List κ} {k : κ} (h : k ∈ ks) : ks[ixOf ks k]? = some k := by
  unfold ixOf
  have hl := List.idxOf_lt_length_of_mem h
  rw [List.getElem?_eq_getElem hl]
  exact congrArg some (List.getElem_idxOf hl)
theorem ixOf_min {ks : List κ} {k : κ} : ∀ {m : Nat} {a : κ}, m < ixOf ks k → ks[m]? = some a → a ≠ k := by
  unfold ixOf
  induction ks with
  | nil => intro m a _ h; simp at h
  | cons b ks ih =>
    intro m a hm h
    rw [List.idxOf_cons] at hm
    by_cases c : b = k
    · subst c
      simp at hm
    · have c' : (b == k) = false := by simpa using c
      rw [c'] at hm
      simp only [cond_false] at hm
      cases m with
      | zero =>
        simp only [List.getElem?_cons_zero, Option.some.injEq] at h
        rw [← h]; exact c
      | succ m =>
        simp only [List.getElem?_cons_succ] at h
        exact ih (by omega) h
/-- the place of a key, as list.index tells it -/
theorem Enc.index (e : Enc D) {K : PySem.W.Frag} {H : Hp} {a : Addr} {y : V} {ks : List κ} {k : κ} {Q : VK} (h : k ∈ ks) (hl : Dp K H (.ref a) (.list (ks.map D))) (hy : Dp K H y (D k)) (q : Q (.int (ixOf ks k : Nat)) H) : rIndexD K (.ref a) [y] H Q := by
  refine ⟨a, y, D k, ks.map D, ixOf ks k, D k, rfl, rfl, hl, hy, e.shapeds ks, e.shaped k, by rw [List.getElem?_map, ixOf_get h]; rfl, by rw [e.eq]; exact decide_eq_true rfl, fun m z' hm hz => ?_, q⟩
  rw [List.getElem?_map] at hz
  obtain ⟨b, hb, rfl⟩ := Option.map_eq_some_iff.mp hz
  rw [e.eq]
  exact decide_eq_false (ixOf_min hm hb)
end
def pD (k : Key2) : PyData := .tuple [.int k.1, .int k.2]
theorem enc_pD : Enc pD := by
  refine ⟨fun k => by simp [pD, PyData.canLay0, PyData.canLayAll0], fun k => by simp [pD, PyData.depth, PyData.depthAll], fun a b => ?_⟩
  obtain ⟨a1, a2⟩ := a
  obtain ⟨b1, b2⟩ := b
  have e : PyData.eqv (pD (a1, a2)) (pD (b1, b2)) = (((a1 : Int) == (b1 : Int)) && (((a2 : Int) == (b2 : Int)) && true)) := by simp only [pD, PyData.eqv, PyData.eqvAll]
  rw [e]
  by_cases h1 : a1 = b1
  · by_cases h2 : a2 = b2
    · subst h1 h2; simp
    · have : ¬ (a2 : Int) = b2 := by omega
      simp [h1, h2, this]
  · have : ¬ (a1 : Int) = b1 := by omega
    simp [h1, this]
theorem dp_pt {K : PySem.W.Frag} {H : Hp} {p : Addr} {k : Key2} (h : PtAt H p k) : Dp K H (.ref p) (pD k) := .tup (SqT.of h) (.cons (.int _) (.cons (.int _) .nil))
theorem dp_pts {K : PySem.W.Frag} {H : Hp} : ∀ {as : List Addr} {ks : List Key2}, Paired (PtAt H) as ks → DpAll K H (as.map V.ref) (ks.map pD)
  | _, _, .nil => .nil
  | _, _, .cons r t => .cons (dp_pt r) (dp_pts t)
theorem dp_keys {K : PySem.W.Frag} {H : Hp} {a : Addr} {as : List Addr} {ks : List Key2} (h : H a = some (.lst (as.map V.ref))) (p : Paired (PtAt H) as ks) : Dp K H (.ref a) (.list (ks.map pD)) := .lst (SqL.of h) (dp_pts p)
/-- rows and goods in new tables -/
def rowOf (sg : List Nat) (s1 s2 : Sts) (ks : List Key2) (k : Key2) : Row := (metNx sg s1 s2 k).map fun p => (p.1, ixOf ks p.2)
theorem met_eq (sg : List Nat) (s1 s2 : Sts) : met sg s1 s2 = (metKs sg s1 s2).map fun k => (rowOf sg s1 s2 (metKs sg s1 s2) k, goodAt s1 k.1 && goodAt s2 k.2) := rfl
end Fs
namespace Fs
open PySem PySem.Spec PyProof.Rows L2 SlX RZ
theorem pairsU_len (s1 s2 : Sts) : (pairsU s1 s2).length = s1.length * s2.length := by
  have : ∀ l : List Nat, (l.flatMap fun i => (List.range s2.length).map fun j => ((i, j) : Key2)).length = l.length * s2.length := by
    intro l
    induction l with
    | nil => simp
    | cons a l ih => rw [List.flatMap_cons, List.length_append, ih, List.length_map, List.length_range, List.length_cons, Nat.succ_mul, Nat.add_comm]
  unfold pairsU
  rw [this, List.length_range]
theorem metNx_sub {sg : List Nat} {s1 s2 : Sts} {k : Key2} : ((metNx sg s1 s2 k).map (·.1)).Sublist sg := by
  have : ∀ l : List Nat, ((metNx l s1 s2 k).map (·.1)).Sublist l := by
    intro l
    induction l with
    | nil => exact List.Sublist.refl _
    | cons c l ih =>
      have e : metNx (c :: l) s1 s2 k = (match lk (rowAt s1 k.1) c, lk (rowAt s2 k.2) c with
        | some x, some y => [(c, (x, y))]
        | _, _ => []) ++ metNx l s1 s2 k := by
        unfold metNx
        rw [List.filterMap_cons]
        cases lk (rowAt s1 k.1) c <;> cases lk (rowAt s2 k.2) c <;> rfl
      rw [e]
      split
      · exact ih.cons_cons _
      · exact ih.cons _
  exact this sg
theorem Enc.any_pos {κ : Type} [DecidableEq κ] {D : κ → PyData} (e : Enc D) {ks : List κ} {k : κ} (h : k ∈ ks) : ((ks.map D).any fun z => PyData.eqv z (D k)) = true := by rw [e.any]; exact decide_eq_true h
theorem Enc.any_neg {κ : Type} [DecidableEq κ] {D : κ → PyData} (e : Enc D) {ks : List κ} {k : κ} (h : k ∉ ks) : ((ks.map D).any fun z => PyData.eqv z (D k)) = false := by rw [e.any]; exact decide_eq_false h
theorem kMv_length {l : List (Nat × Key2)} {ps : List Addr} (h : l.length = ps.length) : (kMv l ps).length = l.length := by
  unfold kMv
  rw [List.length_map, List.length_zip]; omega
/-- the moves' entries, one by one -/
theorem kMv_at {l : List (Nat × Key2)} {ps : List Addr} {i : Nat} {kv : Key × V} (h : (kMv l ps)[i]? = some kv) : ∃ c k p, l[i]? = some (c, k) ∧ ps[i]? = some p ∧ kv = (.inr ⟨#[c]⟩, .ref p) := by
  unfold kMv at h
  rw [List.getElem?_map] at h
  obtain ⟨⟨⟨c, k⟩, p⟩, hq, rfl⟩ := Option.map_eq_some_iff.mp h
  obtain ⟨h1, h2⟩ := List.getElem?_zip_eq_some.mp hq
  exact ⟨c, k, p, h1, h2, rfl⟩
section
variable {P : Program} {w : World} {K : PySem.W.Frag} {mg : Str → Option Value} {base : Heap} {C TM : Addr} {f : Addr} {fd : FuncData}
def spMt (TM : Addr) : Sp := fun vs H Q E => ∃ (t1 t2 : Addr) (sg : List Nat) (s1 s2 : Sts), vs = [.str (SX.S sg), .ref t1, .ref t2] ∧ TabT H t1 s1 ∧ TabT H t2 s2 ∧ RowsOk sg s1 ∧ RowsOk sg s2 ∧ 1 ≤ s1.length ∧ 1 ≤ s2.length ∧ s1.length ≤ 30 ∧ s2.length ≤ 30 ∧ SgOk sg ∧
  ((met sg s1 s2).length ≤ 6 → ∀ (t : Addr) (H' : Hp), Same H H' → TabT H' t (met sg s1 s2) → Q (.ref t) H') ∧ (6 < (met sg s1 s2).length → TooX TM E H)
abbrev s_p_mt : Stmt := top 21
theorem sc_p_mt : FnScope ["signs", "one", "other", "keys", "at", "key", "moves", "sign", "to"] ["signs", "one", "other"] (defScope s_p_mt) := ⟨rfl, rfl, rfl, by decide +kernel, rfl, by decide +kernel, by decide +kernel⟩
theorem cal_p_mt (T : Bs mg) (D : Df K mg "met_table" s_p_mt ["signs", "one", "other"]) (C_p_mm : CalP P w K mg base CX0 1 "met_moves" spMm) (C_p_lim : CalP P w K mg base (L2.CX P w) 2 "limited" (spLim TM)) : CalP P w K mg base (L2.CX P w) 3 "met_table" (spMt TM) := by
  refine D.calX sc_p_mt (fun vs H Q E h => ?_) (fun f cdv A outer s H vs Q E hr h => ?_)
  · obtain ⟨t1, t2, sg, s1, s2, rfl, _⟩ := h
    rfl
  · obtain ⟨t1, t2, sg, s1, s2, rfl, tb1, tb2, ro1, ro2, p1, p2, m1, m2, sgo, q1, q2⟩ := h
    refine ⟨_, pss_cons (ps_set (i := 3) sc_p_mt.nd rfl (.inr rfl) (pe_lstN (pa_cons (pe_tup (pa_cons pe_int (pa_cons pe_int pa_nil))) pa_nil)))
      (pss_cons (ps_set (i := 4) sc_p_mt.nd rfl (.inl rfl) pe_int)
      (pss_cons (ps_while (passes_of rfl) (pt_cmpR op_lt (pv 4) (pb call_len3 T.z_len (pa_cons (pv 3) pa_nil)) (nomark _))
        (pss_cons (ps_for (passes_of rfl) rfl (pi_values (pe_frz (pcP C_p_mm hr (pa_cons (pv 0) (pa_cons (pv 1) (pa_cons (pv 2) (pa_cons (pe_ix ix_list (pv 3) (pv 4) (fun _ _ => rfl)) pa_nil))))))) (pg_name (i := 5) sc_p_mt.nd rfl (Or.inl rfl))
          (pss_one (ps_if (pt_cmpR (op_notInD (hu65 hr)) (pv 5) (pv 3) (by rfl))
            (pss_one (ps_expr (pe_bm PySem.F.plainAttrs_list PySem.F.slot_list_append PySem.F.type_list_append mt_append (pv 3) (pa_cons (pv 5) pa_nil))))
            pss_nil)))
        (pss_one (ps_set (i := 4) sc_p_mt.nd rfl (.inl rfl) (pe_op op_add (pv 4) pe_int)))))
      (pss_cons (ps_set (i := 6) sc_p_mt.nd rfl (.inl rfl) (pe_lstN pa_nil))
      (pss_cons (ps_for (passes_of rfl) rfl (pi_list (pv 3)) (pg_name (i := 5) sc_p_mt.nd rfl (Or.inl rfl))
        (pss_one (ps_expr (pe_bm PySem.F.plainAttrs_list PySem.F.slot_list_append PySem.F.type_list_append mt_append (pv 6) (pa_cons (pe_dc (own := [("sign", 7), ("to", 8)]) (tk := (tVar 7)) (tv := (tBM K "list" (rIndexD K) (tVar 3) (tCons (tVar 8) tNil))) (g := gTup K 2 (gCons (gName 7) (gCons (gName 8) gNil))) rfl sc_p_mt.nd (pi_items (pe_frz (pcP C_p_mm hr (pa_cons (pv 0) (pa_cons (pv 1) (pa_cons (pv 2) (pa_cons (pv 5) pa_nil))))))) (blkOk_by (N := ["signs", "one", "other", "keys", "at", "key", "moves", "sign", "to"]) (sc := defScope s_p_mt) (by decide +kernel)) (fun _ _ _ _ _ => (pg_tup rfl (pgs_cons (pg_name (i := 7) sc_p_mt.nd rfl (Or.inl rfl)) (pgs_cons (pg_name (i := 8) sc_p_mt.nd rfl (Or.inl rfl)) pgs_nil)))) (fun _ _ _ _ _ => pts_nil) (fun _ _ _ _ _ => (pv 7)) (fun _ _ _ _ _ => (pe_bm PySem.F.plainAttrs_list PySem.F.slot_list_index PySem.F.type_list_index (mt_indexD (hu65 hr)) (pv 3) (pa_cons (pv 8) pa_nil)))) pa_nil)))))
      (pss_one (ps_ret (pcX C_p_lim hr (L2.passes_call (takes_of rfl rfl rfl rfl) (fun _ _ _ _ h => h)) (pa_cons (pe_tup (pa_cons (pv 6) (pa_cons (pe_lc (own := [("key", 5)]) (te := (tAndV (tOp (rIxL K) (tOp (rIxT K) (tVar 1) (tC (.int 1))) (tOp (rIx3 K) (tVar 5) (tC (.int 0)))) (tOp (rIxL K) (tOp (rIxT K) (tVar 2) (tC (.int 1))) (tOp (rIx3 K) (tVar 5) (tC (.int 1)))))) rfl sc_p_mt.nd (pi_list (pv 3)) (blkOk_by (N := ["signs", "one", "other", "keys", "at", "key", "moves", "sign", "to"]) (sc := defScope s_p_mt) (by decide +kernel)) (fun _ _ _ _ _ => (pg_name (i := 5) sc_p_mt.nd rfl (Or.inl rfl))) (fun _ _ _ _ _ => pts_nil) (fun _ _ _ _ _ => (pe_and (pe_ix ix_list (pe_ix ix_tup (pv 1) pe_int (fun _ _ => rfl)) (pe_ix ix_3 (pv 5) pe_int (fun _ _ => rfl)) (fun _ _ => rfl)) (pe_one (pe_ix ix_list (pe_ix ix_tup (pv 2) pe_int (fun _ _ => rfl)) (pe_ix ix_3 (pv 5) pe_int (fun _ _ => rfl)) (fun _ _ => rfl)))))) pa_nil))) pa_nil)))))))), ?_⟩
    have nd := sgo.nodup
    have lsg := sgo.len.2
    have hUl : (pairsU s1 s2).length ≤ 900 := by rw [pairsU_len]; exact Nat.mul_le_mul m1 m2
    have hU := metNx_U ro1 ro2
    generalize hUe : pairsU s1 s2 = U at hUl hU
    have memU : ∀ k : Key2, k ∈ U → k.1 < s1.length ∧ k.2 < s2.length := fun k hk => by rw [← hUe] at hk; exact mem_pairsU.mp hk
    have hR : metKs sg s1 s2 = bfs (fun k => (metNx sg s1 s2 k).map (·.2)) U.length [(0, 0)] 0 := by rw [← hUe]; rfl
    have hst : ((0, 0) : Key2) ∈ U := by rw [← hUe]; exact mem_pairsU.mpr ⟨p1, p2⟩
    refine ⟨by show 2 ≤ sizeLine; decide, fun T0 hT0 => ⟨by show 1 ≤ sizeLine; decide, fun Kl hKl _ => ?_⟩⟩
    have e1 := same_upd (o := .tup [.int 0, .int 0]) (Same.refl H) hT0
    have kT0 : (upd H T0 (.tup [.int 0, .int 0])) T0 = some (.tup [.int 0, .int 0]) := upd_same
    generalize upd H T0 (.tup [.int 0, .int 0]) = H1 at e1 kT0 hKl
    have nKl : H Kl = none := e1.free hKl
    refine ⟨fun m σ H2 => ∃ (n : Nat) (x5 : Option V) (as : List Addr) (ks : List Key2), m = U.length - n ∧ σ = [some (.str (SX.S sg)), some (.ref t1), some (.ref t2), some (.ref Kl), some (.int (n : Nat)), x5, none, none, none] ∧ Same H H2 ∧ H2 Kl = some (.lst (as.map V.ref)) ∧ Paired (PtAt H2) as ks ∧
      At (fun k => (metNx sg s1 s2 k).map (·.2)) U (metKs sg s1 s2) ks n, ⟨U.length - 0, 0, none, [T0], [(0, 0)], rfl, rfl, same_upd e1 hKl, upd_same, .cons ?_ .nil, by rw [hR]; exact At.start hst⟩, ?_⟩
    · show (upd _ Kl _) T0 = _
      rw [upd_ne (ne_of_none kT0 hKl)]; exact kT0
    rintro m σ H2 ⟨n, x5, as, ks, rfl, rfl, e2, k1, k2, a⟩
    have la := paired_len k2
    have lks := nodup_len a.nd a.sub
    refine ⟨_, rfl, _, rfl, _, _, rfl, Of3.lst k1, _, _, rfl, rfl, _, rfl, ?_⟩
    rw [List.length_map, la]
    by_cases c : n < ks.length
    · rw [decide_eq_true (show ((n : Nat) : Int) < (ks.length : Nat) by omega)]
      refine iteT ⟨fun σ' H' => ∃ (x5 : Option V) (as : List Addr) (ks' : List Key2), σ' = [some (.str (SX.S sg)), some (.ref t1), some (.ref t2), some (.ref Kl), some (.int ((n + 1 : Nat) : Int)), x5, none, none, none] ∧ Same H H' ∧ H' Kl = some (.lst (as.map V.ref)) ∧ Paired (PtAt H') as ks' ∧
        At (fun k => (metNx sg s1 s2 k).map (·.2)) U (metKs sg s1 s2) ks' (n + 1), fun σ' H' ⟨x5, as, ks', h1, h2, h3, h4, h5⟩ => ⟨U.length - (n + 1), by omega, n + 1, x5, as, ks', rfl, h1, h2, h3, h4, h5⟩, ?_⟩
      obtain ⟨k, hk⟩ : ∃ k, ks[n]? = some k := ⟨ks[n], List.getElem?_eq_getElem c⟩
      obtain ⟨p, hp⟩ : ∃ p, as[n]? = some p := ⟨as[n]'(by omega), List.getElem?_eq_getElem (by omega)⟩
      obtain ⟨k', hk', hpk⟩ := paired_get k2 hp
      rw [hk] at hk'
      obtain rfl : k = k' := Option.some.inj hk'
      obtain ⟨kb1, kb2⟩ := memU k (a.sub k (List.mem_of_getElem? hk))
      have hpa : (as.map V.ref)[n]? = some (.ref p) := by rw [List.getElem?_map, hp]; rfl
      refine ⟨_, rfl, _, rfl, _, rfl, _, rfl, _, rfl, Kl, _, _, _, rfl, rfl, SqL.of k1, atI_nat hpa, t1, t2, p, sg, s1, s2, k, rfl, tb1.le e2, tb2.le e2, hpk, kb1, kb2, nd, lsg, fun D H4 e4 hD ⟨ps, v1, v2⟩ => ⟨D, _, rfl, v1, trivial, fun od => ?_⟩⟩
      have up : ∀ b o, H2 b = some o → (upd H4 D (.frz od (.dK (kMv (metNx sg s1 s2 k) ps)))) b = some o := fun b o hb => by
        rw [upd_ne (ne_of_none hb hD)]; exact e4 _ _ hb
      have e5 : Same H (upd H4 D (.frz od (.dK (kMv (metNx sg s1 s2 k) ps)))) := same_mut (e2.trans e4) (e2.free hD)
      have kD : (upd H4 D (.frz od (.dK (kMv (metNx sg s1 s2 k) ps)))) D = some (.frz od (.dK (kMv (metNx sg s1 s2 k) ps))) := upd_same
      have v3 : Paired (PtAt (upd H4 D (.frz od (.dK (kMv (metNx sg s1 s2 k) ps))))) ps ((metNx sg s1 s2 k).map (·.2)) := L2.Paired.mapP v2 fun b o hb => by
        show (upd _ D _) b = _
        rw [upd_ne (ne_of hb v1 (by intro z; cases z))]; exact hb
      have k3 := up _ _ k1
      have k4 : Paired (PtAt (upd H4 D (.frz od (.dK (kMv (metNx sg s1 s2 k) ps))))) as ks := L2.Paired.mapP k2 fun _ _ hb => up _ _ hb
      generalize upd H4 D (.frz od (.dK (kMv (metNx sg s1 s2 k) ps))) = H5 at e5 kD v3 k3 k4
      refine ⟨D, od, _, rfl, kD, for_it walk_values (fun i σ H6 => ∃ (x5 : Option V) (as' : List Addr), σ = [some (.str (SX.S sg)), some (.ref t1), some (.ref t2), some (.ref Kl), some (.int (n : Nat)), x5, none, none, none] ∧ Same H H6 ∧ H6 D = some (.frz od (.dK (kMv (metNx sg s1 s2 k) ps))) ∧
        Paired (PtAt H6) ps ((metNx sg s1 s2 k).map (·.2)) ∧ H6 Kl = some (.lst (as'.map V.ref)) ∧ Paired (PtAt H6) as' (addAll ks (((metNx sg s1 s2 k).map (·.2)).take i))) ?_ ?_ ?_ ?_⟩
      · exact ⟨x5, as, rfl, e5, kD, v3, k3, k4⟩
      · rintro i σ H6 _ ⟨_, _, _, _, f2, _⟩
        exact f2
      · rintro i y σ H6 H7 hi ⟨x5', as', rfl, f1, f2, f3, f4, f5⟩ ⟨rfl, kk, hx⟩
        obtain ⟨c', k', p', hl', hp', hkv⟩ := kMv_at hx
        obtain ⟨rfl, rfl⟩ : kk = .inr ⟨#[c']⟩ ∧ y = .ref p' := ⟨congrArg Prod.fst hkv, congrArg Prod.snd hkv⟩
        have hv : ((metNx sg s1 s2 k).map (·.2))[i]? = some k' := by rw [List.getElem?_map, hl']; rfl
        obtain ⟨k'', hk'', hpk'⟩ := paired_get f3 hp'
        rw [hv] at hk''
        obtain rfl : k' = k'' := Option.some.inj hk''
        have las := paired_len f5
        have lall : as'.length ≤ 900 + 4 := by
          have h1 : ∀ (xs ks : List Key2), (addAll ks xs).length ≤ ks.length + xs.length := by
            intro xs
            induction xs with
            | nil => intro ks; exact Nat.le_refl _
            | cons x xs ih =>
              intro ks
              have h2 := ih (addK ks x)
              have h3 : (addK ks x).length ≤ ks.length + 1 := by unfold addK; split <;> simp
              show (addAll (addK ks x) xs).length ≤ _
              rw [List.length_cons]; omega
          have h2 := h1 (((metNx sg s1 s2 k).map (·.2)).take i) ks
          have h3 : (((metNx sg s1 s2 k).map (·.2)).take i).length ≤ 4 := by
            have := metNx_len (sg := sg) (s1 := s1) (s2 := s2) (k := k)
            rw [List.length_take, List.length_map]; omega
          omega
        refine ⟨_, rfl, _, rfl, pD k', _, dp_pt hpk', dp_keys f4 f5, enc_pD.shaped _, enc_pD.shapeds _, _, rfl, ?_⟩
        rw [take_snoc hv, addAll_snoc]
        unfold addK
        by_cases c2 : k' ∈ addAll ks (((metNx sg s1 s2 k).map (·.2)).take i)
        · rw [enc_pD.any_pos c2, if_pos c2]
          exact iteF ⟨_, as', rfl, f1, f2, f3, f4, f5⟩
        · rw [enc_pD.any_neg c2, if_neg c2]
          refine iteT ⟨_, rfl, .inl ⟨rfl, _, SqL.of f4⟩, _, rfl, Kl, _, _, rfl, rfl, f4, by rw [List.length_map, sizeLine_eq]; omega, ?_⟩
          have hle : ∀ b o, (∀ l, o ≠ .lst l) → H7 b = some o → (upd H7 Kl (.lst (as'.map V.ref ++ [.ref p']))) b = some o := fun b o ho hb => by
            rw [upd_ne (fun z => by rw [z, f4] at hb; cases hb; exact ho _ rfl)]; exact hb
          exact ⟨_, as' ++ [p'], rfl, same_mut f1 nKl, hle _ _ (by intro l z; cases z) f2, L2.Paired.mapP f3 fun _ _ h => hle _ _ (by intro l z; cases z) h, by rw [upd_same, List.map_append]; rfl,
            paired_snoc (L2.Paired.mapP f5 fun _ _ h => hle _ _ (by intro l z; cases z) h) (hle _ _ (by intro l z; cases z) hpk')⟩
      · rintro σ H6 ⟨x5', as', rfl, f1, f2, f3, f4, f5⟩
        have e9 : ((metNx sg s1 s2 k).map (·.2)).take (kMv (metNx sg s1 s2 k) ps).length = (metNx sg s1 s2 k).map (·.2) := by
          refine List.take_of_length_le ?_
          have h1 := paired_len v2
          rw [List.length_map] at h1
          rw [kMv_length h1.symm, List.length_map]
          exact Nat.le_refl _
        rw [e9] at f5
        exact ⟨_, rfl, _, _, rfl, rfl, x5', as', _, rfl, f1, f4, f5, a.turn hU hk⟩
    · rw [decide_eq_false (show ¬ ((n : Nat) : Int) < (ks.length : Nat) by omega)]
      refine iteF ?_
      obtain ⟨ndR, clR, subR⟩ := a.closed (by omega)
      have eR := a.done (by omega)
      subst eR
      generalize hRe : metKs sg s1 s2 = R at *
      have lR : R.length ≤ 900 := by omega
      refine ⟨by show 0 ≤ sizeLine; exact Nat.zero_le _, fun Ml hMl _ => ?_⟩
      have nMl : H Ml = none := e2.free hMl
      have nKM : Kl ≠ Ml := ne_of_none k1 hMl
      have e3 : Same H (upd H2 Ml (.lst [])) := same_upd e2 hMl
      have k3 : (upd H2 Ml (.lst [])) Kl = some (.lst (as.map V.ref)) := by rw [upd_ne nKM]; exact k1
      have k4 : Paired (PtAt (upd H2 Ml (.lst []))) as R := L2.Paired.mapP k2 fun _ _ h => (same_upd (Same.refl H2) hMl) _ _ h
      have k5 : (upd H2 Ml (.lst [])) Ml = some (.lst (([] : List Addr).map V.ref)) := upd_same
      generalize upd H2 Ml (.lst []) = H3 at e3 k3 k4 k5
      refine ⟨_, rfl, Kl, rfl, ⟨_, SqL.of k3⟩, for_it (walk_list (xs := as.map V.ref)) (fun i σ H6 => ∃ (x5 : Option V) (ds : List Addr), σ = [some (.str (SX.S sg)), some (.ref t1), some (.ref t2), some (.ref Kl), some (.int (n : Nat)), x5, some (.ref Ml), none, none] ∧ Same H H6 ∧
        H6 Kl = some (.lst (as.map V.ref)) ∧ Paired (PtAt H6) as R ∧ H6 Ml = some (.lst (ds.map V.ref)) ∧ Paired (fun d r => RowAt H6 d r) ds ((R.take i).map (rowOf sg s1 s2 R))) ?_ ?_ ?_ ?_⟩
      · exact ⟨x5, [], rfl, e3, k3, k4, k5, .nil⟩
      · rintro i σ H6 _ ⟨_, _, _, _, f2, _⟩
        exact SqL.of f2
      · rintro i y σ H6 H7 hi ⟨x5', ds, rfl, f1, f2, f3, f4, f5⟩ ⟨rfl, hx⟩
        rw [List.getElem?_map] at hx
        obtain ⟨p, hp, rfl⟩ := Option.map_eq_some_iff.mp hx
        obtain ⟨k, hk, hpk⟩ := paired_get f3 hp
        have hkR : k ∈ R := List.mem_of_getElem? hk
        obtain ⟨kb1, kb2⟩ := memU k (subR k hkR)
        have lds : ds.length ≤ 900 := by
          have := paired_len f5
          rw [List.length_map, List.length_take] at this
          omega
        refine ⟨_, rfl, .inl ⟨rfl, _, SqL.of f4⟩, _, rfl, _, rfl, _, rfl, _, rfl, t1, t2, p, sg, s1, s2, k, rfl, tb1.le f1, tb2.le f1, hpk, kb1, kb2, nd, lsg, fun D H8 e8 hD ⟨ps, v1, v2⟩ => ⟨D, _, rfl, v1, trivial, fun od => ⟨D, od, _, rfl, upd_same, fun E hE => ?_⟩⟩⟩
        have up : ∀ b o, H7 b = some o → (upd H8 D (.frz od (.dK (kMv (metNx sg s1 s2 k) ps)))) b = some o := fun b o hb => by
          rw [upd_ne (ne_of_none hb hD)]; exact e8 _ _ hb
        have e9 : Same H (upd H8 D (.frz od (.dK (kMv (metNx sg s1 s2 k) ps)))) := same_mut (f1.trans e8) (f1.free hD)
        have kD : (upd H8 D (.frz od (.dK (kMv (metNx sg s1 s2 k) ps)))) D = some (.frz od (.dK (kMv (metNx sg s1 s2 k) ps))) := upd_same
        have v3 : Paired (PtAt (upd H8 D (.frz od (.dK (kMv (metNx sg s1 s2 k) ps))))) ps ((metNx sg s1 s2 k).map (·.2)) := L2.Paired.mapP v2 fun b o hb => by
          show (upd _ D _) b = _
          rw [upd_ne (ne_of hb v1 (by intro z; cases z))]; exact hb
        have g2 := up _ _ f2
        have g3 : Paired (PtAt (upd H8 D (.frz od (.dK (kMv (metNx sg s1 s2 k) ps))))) as R := L2.Paired.mapP f3 fun _ _ hb => up _ _ hb
        have g4 := up _ _ f4
        have g5 : Paired (fun d r => RowAt (upd H8 D (.frz od (.dK (kMv (metNx sg s1 s2 k) ps)))) d r) ds ((R.take i).map (rowOf sg s1 s2 R)) := L2.Paired.mapP f5 fun _ _ hb => up _ _ hb
        generalize upd H8 D (.frz od (.dK (kMv (metNx sg s1 s2 k) ps))) = H9 at e9 kD v3 g2 g3 g4 g5 hE
        have lmv : (metNx sg s1 s2 k).length = ps.length := by
          have := paired_len v2
          rw [List.length_map] at this
          exact this.symm
        have nEM : Ml ≠ E := ne_of_none g4 hE
        refine dc_it walk_items (fun j H10 => Same H9 H10 ∧ H10 E = some (.dK (kRow ((rowOf sg s1 s2 R k).take j)))) ?_ ?_ ?_ ?_
        · exact ⟨same_upd (Same.refl H9) hE, upd_same⟩
        · rintro j H10 _ ⟨h1, _⟩
          exact h1 _ _ kD
        · rintro j y H10 H11 hj ⟨h1, h2⟩ ⟨T1, kx, vx, rfl, hT1, rfl, hk1, hv1⟩
          have hk1 : (kMv (metNx sg s1 s2 k) ps)[j]?.map (fun kv => kV kv.1) = some kx := hk1
          have hv1 : (kMv (metNx sg s1 s2 k) ps)[j]?.map Prod.snd = some vx := hv1
          obtain ⟨kv, hkv⟩ : ∃ kv, (kMv (metNx sg s1 s2 k) ps)[j]? = some kv := by
            cases q : (kMv (metNx sg s1 s2 k) ps)[j]? with
            | none => rw [q] at hk1; cases hk1
            | some kv => exact ⟨kv, rfl⟩
          rw [hkv] at hk1 hv1
          obtain ⟨c', k', p', hl', hp', rfl⟩ := kMv_at hkv
          obtain rfl : S1 c' = kx := Option.some.inj hk1
          obtain rfl : V.ref p' = vx := Option.some.inj hv1
          have hv : ((metNx sg s1 s2 k).map (·.2))[j]? = some k' := by rw [List.getElem?_map, hl']; rfl
          have hkm : k' ∈ R := clR k hkR k' (List.mem_of_getElem? hv)
          obtain ⟨k'', hk'', hpk'⟩ := paired_get v3 hp'
          rw [hv] at hk''
          obtain rfl : k' = k'' := Option.some.inj hk''
          have e12 := same_upd (o := .tup [S1 c', .ref p']) h1 hT1
          have nTE : E ≠ T1 := ne_of_none h2 hT1
          have kE : (upd H10 T1 (.tup [S1 c', .ref p'])) E = some (.dK (kRow ((rowOf sg s1 s2 R k).take j))) := by rw [upd_ne nTE]; exact h2
          have hrow : (rowOf sg s1 s2 R k)[j]? = some (c', ixOf R k') := by unfold rowOf; rw [List.getElem?_map, hl']; rfl
          refine ⟨T1, _, rfl, SqT.of upd_same, rfl, _, _, rfl, _, _, rfl, rfl, rfl, _, rfl, _, rfl, .inl ⟨rfl, _, SqL.of (e12 _ _ g2)⟩, _, rfl, ?_⟩
          generalize upd H10 T1 (.tup [S1 c', .ref p']) = H12 at e12 kE
          unfold tNil
          dsimp only
          refine enc_pD.index hkm (dp_keys (e12 _ _ g2) (L2.Paired.mapP g3 fun _ _ h => e12 _ _ h)) (dp_pt (e12 _ _ hpk')) ?_
          refine ⟨_, .inr ⟨#[c']⟩, rfl, kE, ?_, same_mut e12 hE, ?_⟩
          · have h3 := metNx_len (sg := sg) (s1 := s1) (s2 := s2) (k := k)
            unfold kRow rowOf
            rw [List.length_map, List.length_take, List.length_map, sizeLine_eq]; omega
          · have hfst : ((metNx sg s1 s2 k).map (·.1))[j]? = some c' := by rw [List.getElem?_map, hl']; rfl
            rw [upd_same, put_row (sg := ((metNx sg s1 s2 k).map (·.1)).take j) ?_ (take_not_mem (metNx_sub.nodup nd) hfst), take_snoc hrow]
            · unfold kRow
              rw [List.map_append]; rfl
            · intro kv hkv
              obtain ⟨q, hq, rfl⟩ := List.mem_map.mp hkv
              refine ⟨q.1, ?_, rfl⟩
              unfold rowOf at hq
              rw [← List.map_take] at hq
              obtain ⟨q', hq', rfl⟩ := List.mem_map.mp hq
              rw [← List.map_take]
              exact List.mem_map.mpr ⟨q', hq', rfl⟩
        · rintro H10 ⟨h1, h2⟩
          have e13 : (rowOf sg s1 s2 R k).take (kMv (metNx sg s1 s2 k) ps).length = rowOf sg s1 s2 R k := by
            refine List.take_of_length_le ?_
            rw [kMv_length lmv]
            unfold rowOf
            rw [List.length_map]
            exact Nat.le_refl _
          rw [e13] at h2
          have h4 := h1 _ _ g4
          refine ⟨Ml, _, _, rfl, rfl, h4, by rw [List.length_map, sizeLine_eq]; omega, ?_⟩
          have hle : ∀ b o, (∀ l, o ≠ .lst l) → H10 b = some o → (upd H10 Ml (.lst (ds.map V.ref ++ [.ref E]))) b = some o := fun b o ho hb => by
            rw [upd_ne (fun z => by rw [z, h4] at hb; cases hb; exact ho _ rfl)]; exact hb
          refine ⟨_, ds ++ [E], rfl, same_mut (e9.trans h1) nMl, ?_, L2.Paired.mapP g3 fun _ _ h => hle _ _ (by intro l z; cases z) (h1 _ _ h), by rw [upd_same, List.map_append]; rfl, ?_⟩
          · rw [upd_ne nKM]; exact h1 _ _ g2
          · rw [take_snoc hk, List.map_append]
            exact paired_snoc (L2.Paired.mapP g5 fun _ _ h => hle _ _ (by intro l z; cases z) (h1 _ _ h)) (hle _ _ (by intro l z; cases z) h2)
      · rintro σ H6 ⟨x5', ds, rfl, f1, f2, f3, f4, f5⟩
        rw [List.length_map, la, List.take_of_length_le (Nat.le_refl _)] at f5
        obtain ⟨lm1, lg1, ds1, a0, a1, a2, a3⟩ := (tb1.le f1).ex
        obtain ⟨lm2, lg2, ds2, b0, b1, b2, b3⟩ := (tb2.le f1).ex
        have lds : ds.length = R.length := by
          have := paired_len f5
          rw [List.length_map] at this
          exact this
        refine ⟨_, rfl, _, rfl, Kl, rfl, ⟨_, SqL.of f2⟩, fun G hG => ?_⟩
        have nGM : Ml ≠ G := ne_of_none f4 hG
        refine lc_it (walk_list (xs := as.map V.ref)) (fun i H7 => Same H6 H7 ∧ H7 G = some (.lst ((R.take i).map fun k => V.bl (goodAt s1 k.1 && goodAt s2 k.2)))) ?_ ?_ ?_ ?_
        · exact ⟨same_upd (Same.refl H6) hG, upd_same⟩
        · rintro i H7 _ ⟨g1, _⟩
          exact SqL.of (g1 _ _ f2)
        · rintro i y H7 H8 hi ⟨g1, g2⟩ ⟨rfl, hx⟩
          rw [List.getElem?_map] at hx
          obtain ⟨p, hp, rfl⟩ := Option.map_eq_some_iff.mp hx
          obtain ⟨k, hk, hpk⟩ := paired_get f3 hp
          obtain ⟨kb1, kb2⟩ := memU k (subR k (List.mem_of_getElem? hk))
          have hpk8 : H8 p = some (.tup [.int (k.1 : Nat), .int (k.2 : Nat)]) := g1 _ _ hpk
          have c1 : (s1.map fun p => V.bl p.2)[k.1]? = some (.bl (goodAt s1 k.1)) := by
            unfold goodAt
            rw [List.getElem?_map, List.getElem?_eq_getElem kb1, List.getD_eq_getElem?_getD, List.getElem?_eq_getElem kb1]; rfl
          have c2 : (s2.map fun p => V.bl p.2)[k.2]? = some (.bl (goodAt s2 k.2)) := by
            unfold goodAt
            rw [List.getElem?_map, List.getElem?_eq_getElem kb2, List.getD_eq_getElem?_getD, List.getElem?_eq_getElem kb2]; rfl
          have fin : ∃ acc, H8 G = some (.lst acc) ∧ acc.length < sizeLine ∧ Same H6 (upd H8 G (.lst (acc ++ [V.bl (goodAt s1 k.1 && goodAt s2 k.2)]))) ∧ (upd H8 G (.lst (acc ++ [V.bl (goodAt s1 k.1 && goodAt s2 k.2)]))) G = some (.lst ((R.take (i + 1)).map fun k => V.bl (goodAt s1 k.1 && goodAt s2 k.2))) := by
            refine ⟨_, g2, by rw [List.length_map, List.length_take, sizeLine_eq]; omega, same_mut g1 hG, ?_⟩
            rw [upd_same, take_snoc hk, List.map_append]; rfl
          refine ⟨rfl, _, rfl, t1, _, 1, .ref lg1, rfl, rfl, SqT.of (g1 _ _ a0), rfl, _, rfl, _, 0, .int (k.1 : Nat), rfl, Of3.tup hpk8, by decide, rfl, lg1, _, _, _, rfl, rfl, SqL.of (g1 _ _ a2), atI_nat c1, _, rfl, ?_⟩
          cases d : goodAt s1 k.1 with
          | false =>
            rw [d, Bool.false_and] at fin
            exact iteF fin
          | true =>
            rw [d, Bool.true_and] at fin
            refine iteT ?_
            exact ⟨_, rfl, t2, _, 1, .ref lg2, rfl, rfl, SqT.of (g1 _ _ b0), rfl, _, rfl, _, 1, .int (k.2 : Nat), rfl, Of3.tup hpk8, by decide, rfl, lg2, _, _, _, rfl, rfl, SqL.of (g1 _ _ b2), atI_nat c2, fin⟩
        · rintro H7 ⟨g1, g2⟩
          rw [List.length_map, la, List.take_of_length_le (Nat.le_refl _)] at g2
          refine ⟨by show 2 ≤ sizeLine; decide, fun t ht => ?_⟩
          have e20 := same_upd (o := .tup [.ref Ml, .ref G]) (Same.refl H7) ht
          have e21 := (f1.trans g1).trans e20
          have lmet : (met sg s1 s2).length = R.length := by rw [met_eq, hRe, List.length_map]
          refine ⟨t, Ml, .ref G, ds.map V.ref, rfl, upd_same, e20 _ _ (g1 _ _ f4), by rw [List.length_map]; omega, fun hle => ?_, fun hlt => ?_⟩
          · rw [List.length_map] at hle
            refine q1 (by omega) t _ e21 ⟨Ml, G, ds, upd_same, e20 _ _ (g1 _ _ f4), ?_, ?_⟩
            · rw [met_eq, hRe, List.map_map]
              exact e20 _ _ g2
            · rw [met_eq, hRe]
              have h1 : Paired (fun d r => RowAt (upd H7 t (.tup [.ref Ml, .ref G])) d r) ds (R.map (rowOf sg s1 s2 R)) := L2.Paired.mapP f5 fun _ _ h => e20 _ _ (g1 _ _ h)
              have h2 : ∀ {ds : List Addr} {R' : List Key2}, Paired (fun d r => RowAt (upd H7 t (.tup [.ref Ml, .ref G])) d r) ds (R'.map (rowOf sg s1 s2 R)) → Paired (fun d (p : Row × Bool) => RowAt (upd H7 t (.tup [.ref Ml, .ref G])) d p.1) ds (R'.map fun k => (rowOf sg s1 s2 R k, goodAt s1 k.1 && goodAt s2 k.2)) := by
                intro ds R'
                induction R' generalizing ds with
                | nil => intro h; cases h; exact .nil
                | cons k R' ih =>
                  intro h
                  cases h with
                  | cons a b => exact .cons a (ih b)
              exact h2 h1
          · rw [List.length_map] at hlt
            exact (q2 (by omega)).le e21
end
end Fs
namespace Fs
open PySem PySem.Spec PyProof.Rows L2 SlX RZ
/-! ### rules turned -/
def enc : Option Nat → Int
  | none => -1
  | some i => (i : Nat)
def oD (k : Option Nat) : PyData := .int (enc k)
theorem enc_inj {a b : Option Nat} : enc a = enc b ↔ a = b := by
  constructor
  · intro h
    cases a with
    | none =>
      cases b with
      | none => rfl
      | some j => have h : (-1 : Int) = (j : Nat) := h; omega
    | some i =>
      cases b with
      | none => have h : ((i : Nat) : Int) = -1 := h; omega
      | some j => have h : ((i : Nat) : Int) = (j : Nat) := h; rw [show i = j by omega]
  · intro h; rw [h]
theorem enc_oD : Enc oD := by
  refine ⟨fun k => by simp [oD, PyData.canLay0], fun k => by simp [oD, PyData.depth], fun a b => ?_⟩
  have e : PyData.eqv (oD a) (oD b) = (enc a == enc b) := by simp only [oD, PyData.eqv]
  rw [e]
  by_cases h : a = b
  · subst h; simp
  · have : ¬ enc a = enc b := fun q => h (enc_inj.mp q)
    simp [h, this]
abbrev vK (k : Option Nat) : V := .int (enc k)
def kTu (l : List (Nat × Option Nat)) : List (Key × V) := l.map fun p => (.inr ⟨#[p.1]⟩, vK p.2)
theorem turNx_snoc {sg : List Nat} {s : Sts} {k : Option Nat} {i c : Nat} (h : sg[i]? = some c) : turNx (sg.take (i + 1)) s k = turNx (sg.take i) s k ++ [(c, k.bind fun i => lk (rowAt s i) c)] := by
  rw [take_snoc h]
  unfold turNx
  rw [List.map_append]; rfl
theorem turNx_fst {sg : List Nat} {s : Sts} {k : Option Nat} : (turNx sg s k).map (·.1) = sg := by
  unfold turNx
  rw [List.map_map]
  show sg.map (fun c => c) = sg
  exact List.map_id' sg
theorem turNx_len {sg : List Nat} {s : Sts} {k : Option Nat} : (turNx sg s k).length = sg.length := by unfold turNx; rw [List.length_map]
theorem kTu_keys {sg : List Nat} {s : Sts} {k : Option Nat} : ∀ kv ∈ kTu (turNx sg s k), ∃ d ∈ sg, kv.1 = (.inr ⟨#[d]⟩ : Key) := fun kv h => by
  obtain ⟨q, hq, rfl⟩ := List.mem_map.mp h
  obtain ⟨c, hc, rfl⟩ := List.mem_map.mp hq
  exact ⟨c, hc, rfl⟩
theorem dp_ints {K : PySem.W.Frag} {H : Hp} : ∀ (ks : List (Option Nat)), DpAll K H (ks.map vK) (ks.map oD)
  | [] => .nil
  | k :: ks => .cons (.int _) (dp_ints ks)
theorem dp_okeys {K : PySem.W.Frag} {H : Hp} {a : Addr} {ks : List (Option Nat)} (h : H a = some (.lst (ks.map vK))) : Dp K H (.ref a) (.list (ks.map oD)) := .lst (SqL.of h) (dp_ints ks)
def rowTu (sg : List Nat) (s : Sts) (ks : List (Option Nat)) (k : Option Nat) : Row := (turNx sg s k).map fun p => (p.1, ixOf ks p.2)
def goodTu (s : Sts) : Option Nat → Bool
  | none => true
  | some i => !goodAt s i
theorem turned_eq (sg : List Nat) (s : Sts) : turned sg s = (turKs sg s).map fun k => (rowTu sg s (turKs sg s) k, goodTu s k) := by
  unfold turned
  refine List.map_congr_left fun k _ => ?_
  cases k <;> rfl
section
variable {P : Program} {w : World} {K : PySem.W.Frag} {mg : Str → Option Value} {base : Heap} {C TM : Addr} {f : Addr} {fd : FuncData}
def spTm : Sp := fun vs H Q _ => ∃ (t : Addr) (sg : List Nat) (s : Sts) (k : Option Nat), vs = [.str (SX.S sg), .ref t, vK k] ∧ TabT H t s ∧ (∀ i, k = some i → i < s.length) ∧ sg.Nodup ∧ sg.length ≤ 4 ∧
  ∀ (D : Addr) (H' : Hp), Same H H' → H D = none → H' D = some (.dK (kTu (turNx sg s k))) → Q (.ref D) H'
abbrev s_p_tm : Stmt := top 22
theorem sc_p_tm : FnScope ["signs", "table", "key", "sign"] ["signs", "table", "key"] (defScope s_p_tm) := ⟨rfl, rfl, rfl, by decide +kernel, rfl, by decide +kernel, by decide +kernel⟩
theorem cal_p_tm (G : Gs mg) (D : Df K mg "turned_moves" s_p_tm ["signs", "table", "key"]) : CalP P w K mg base CX0 1 "turned_moves" spTm := by
  refine D.calP sc_p_tm (fun vs H Q E h => ?_) (fun f cdv A outer s H vs Q E hr h => ?_)
  · obtain ⟨t, sg, st, k, rfl, _⟩ := h
    rfl
  · obtain ⟨t, sg, st, k, rfl, tb, hk, nd, lsg, q⟩ := h
    refine ⟨_, pss_one (ps_ret (pe_dc (own := [("sign", 3)]) (tk := (tVar 3)) (tv := (tIf (tTest (tOp rEq (tVar 2) (tC (.int (-1))))) (tC (.int (-1))) (tDGet2 (tOp (rIxL K) (tOp (rIxT K) (tVar 1) (tC (.int 0))) (tVar 2)) (tVar 3) (tC (.int (-1)))))) rfl sc_p_tm.nd (pi_str (pv 0)) (blkOk_by (N := ["signs", "table", "key", "sign"]) (sc := defScope s_p_tm) (by decide +kernel)) (fun _ _ _ _ _ => (pg_name (i := 3) sc_p_tm.nd rfl (Or.inl rfl))) (fun _ _ _ _ _ => pts_nil) (fun _ _ _ _ _ => (pv 3)) (fun _ _ _ _ _ => (pe_ifExp (pt_cmpR op_eq (pv 2) (pe_gint G.g_DEAD) (nomark _)) (pe_gint G.g_DEAD) (pe_dget2 (hu_of hr) (pe_ix ix_list (pe_ix ix_tup (pv 1) pe_int (fun _ _ => rfl)) (pv 2) (fun _ _ => rfl)) (pv 3) (pe_gint G.g_DEAD) ⟨rfl, rfl, rfl, rfl⟩))))), ?_⟩
    obtain ⟨lm, lg, ds, a0, a1, a2, a3⟩ := tb.ex
    refine ⟨_, rfl, _, rfl, fun D hD => ?_⟩
    refine dc_it walk_str (fun n H7 => Same H H7 ∧ H7 D = some (.dK (kTu (turNx (sg.take n) st k)))) ?_ ?_ ?_ ?_
    · exact ⟨same_upd (Same.refl H) hD, upd_same⟩
    · exact fun _ _ _ _ => trivial
    · rintro n y H7 H8 hn ⟨f1, f2⟩ ⟨rfl, c, hc, rfl⟩
      have hc' : sg[n]? = some c := by rw [← Array.getElem?_toList] at hc; exact hc
      have fin : ∃ kvs k', S1 c = kV k' ∧ H8 D = some (.dK kvs) ∧ kvs.length < sizeLine ∧ Same H (upd H8 D (.dK (putK kvs k' (vK (k.bind fun i => lk (rowAt st i) c))))) ∧ (upd H8 D (.dK (putK kvs k' (vK (k.bind fun i => lk (rowAt st i) c))))) D = some (.dK (kTu (turNx (sg.take (n + 1)) st k))) := by
        refine ⟨_, .inr ⟨#[c]⟩, rfl, f2, ?_, same_mut f1 hD, ?_⟩
        · have h2 := turNx_len (sg := sg.take n) (s := st) (k := k)
          rw [List.length_take] at h2
          unfold kTu
          rw [List.length_map, sizeLine_eq]; omega
        · rw [upd_same, put_row kTu_keys (take_not_mem nd hc'), turNx_snoc hc']
          unfold kTu
          rw [List.map_append]; rfl
      refine ⟨rfl, _, rfl, _, rfl, rfl, _, rfl, ?_⟩
      cases k with
      | none =>
        rw [show decide (vK none = V.int (-1)) = true from decide_eq_true rfl]
        exact iteT fin
      | some i =>
        rw [decide_eq_false (show ¬ vK (some i) = V.int (-1) from fun z => by injection z with z; have : ((i : Nat) : Int) = -1 := z; omega)]
        obtain ⟨d, de, dr⟩ := TabT.row (lm := lm) a3 (hk i rfl)
        have g := DGet.k (k := .inr ⟨#[c]⟩) (f1 _ _ dr)
        rw [valV_row] at g
        refine iteF ⟨_, rfl, t, _, 0, .ref lm, rfl, rfl, SqT.of (f1 _ _ a0), rfl, _, rfl, lm, _, _, _, rfl, rfl, SqL.of (f1 _ _ a1), atI_nat de, d, rfl, .inl ⟨_, .inl (f1 _ _ dr)⟩, _, rfl, _, g, ?_⟩
        have e : ((lk (rowAt st i) c).map fun n => V.int (n : Nat)).getD (V.int (-1)) = vK ((some i).bind fun i => lk (rowAt st i) c) := by
          show _ = vK (lk (rowAt st i) c)
          cases lk (rowAt st i) c <;> rfl
        rw [e]
        exact fin
    · rintro H7 ⟨f1, f2⟩
      have e9 : sg.take (SX.S sg).cps.size = sg := List.take_of_length_le (Nat.le_of_eq (len_cps (SX.S sg)).symm)
      rw [e9] at f2
      exact q D H7 f1 hD f2
def spTt (TM : Addr) : Sp := fun vs H Q E => ∃ (t1 : Addr) (sg : List Nat) (s1 : Sts), vs = [.str (SX.S sg), .ref t1] ∧ TabT H t1 s1 ∧ RowsOk sg s1 ∧ 1 ≤ s1.length ∧ s1.length ≤ 30 ∧ SgOk sg ∧
  ((turned sg s1).length ≤ 6 → ∀ (t : Addr) (H' : Hp), Same H H' → TabT H' t (turned sg s1) → Q (.ref t) H') ∧ (6 < (turned sg s1).length → TooX TM E H)
abbrev s_p_tt : Stmt := top 23
theorem sc_p_tt : FnScope ["signs", "table", "keys", "at", "key", "moves", "sign", "to"] ["signs", "table"] (defScope s_p_tt) := ⟨rfl, rfl, rfl, by decide +kernel, rfl, by decide +kernel, by decide +kernel⟩
theorem cal_p_tt (T : Bs mg) (G : Gs mg) (D : Df K mg "turned_table" s_p_tt ["signs", "table"]) (C_p_tm : CalP P w K mg base CX0 1 "turned_moves" spTm) (C_p_lim : CalP P w K mg base (L2.CX P w) 2 "limited" (spLim TM)) : CalP P w K mg base (L2.CX P w) 3 "turned_table" (spTt TM) := by
  refine D.calX sc_p_tt (fun vs H Q E h => ?_) (fun f cdv A outer s H vs Q E hr h => ?_)
  · obtain ⟨t1, sg, s1, rfl, _⟩ := h
    rfl
  · obtain ⟨t1, sg, s1, rfl, tb1, ro1, p1, m1, sgo, q1, q2⟩ := h
    refine ⟨_, pss_cons (ps_set (i := 2) sc_p_tt.nd rfl (.inr rfl) (pe_lstN (pa_cons pe_int pa_nil)))
      (pss_cons (ps_set (i := 3) sc_p_tt.nd rfl (.inl rfl) pe_int)
      (pss_cons (ps_while (passes_of rfl) (pt_cmpR op_lt (pv 3) (pb call_len3 T.z_len (pa_cons (pv 2) pa_nil)) (nomark _))
        (pss_cons (ps_for (passes_of rfl) rfl (pi_values (pe_frz (pcP C_p_tm hr (pa_cons (pv 0) (pa_cons (pv 1) (pa_cons (pe_ix ix_list (pv 2) (pv 3) (fun _ _ => rfl)) pa_nil)))))) (pg_name (i := 4) sc_p_tt.nd rfl (Or.inl rfl))
          (pss_one (ps_if (pt_cmpR (op_notInD (hu65 hr)) (pv 4) (pv 2) (by rfl))
            (pss_one (ps_expr (pe_bm PySem.F.plainAttrs_list PySem.F.slot_list_append PySem.F.type_list_append mt_append (pv 2) (pa_cons (pv 4) pa_nil))))
            pss_nil)))
        (pss_one (ps_set (i := 3) sc_p_tt.nd rfl (.inl rfl) (pe_op op_add (pv 3) pe_int)))))
      (pss_cons (ps_set (i := 5) sc_p_tt.nd rfl (.inl rfl) (pe_lstN pa_nil))
      (pss_cons (ps_for (passes_of rfl) rfl (pi_list (pv 2)) (pg_name (i := 4) sc_p_tt.nd rfl (Or.inl rfl))
        (pss_one (ps_expr (pe_bm PySem.F.plainAttrs_list PySem.F.slot_list_append PySem.F.type_list_append mt_append (pv 5) (pa_cons (pe_dc (own := [("sign", 6), ("to", 7)]) (tk := (tVar 6)) (tv := (tBM K "list" (rIndexD K) (tVar 2) (tCons (tVar 7) tNil))) (g := gTup K 2 (gCons (gName 6) (gCons (gName 7) gNil))) rfl sc_p_tt.nd (pi_items (pe_frz (pcP C_p_tm hr (pa_cons (pv 0) (pa_cons (pv 1) (pa_cons (pv 4) pa_nil)))))) (blkOk_by (N := ["signs", "table", "keys", "at", "key", "moves", "sign", "to"]) (sc := defScope s_p_tt) (by decide +kernel)) (fun _ _ _ _ _ => (pg_tup rfl (pgs_cons (pg_name (i := 6) sc_p_tt.nd rfl (Or.inl rfl)) (pgs_cons (pg_name (i := 7) sc_p_tt.nd rfl (Or.inl rfl)) pgs_nil)))) (fun _ _ _ _ _ => pts_nil) (fun _ _ _ _ _ => (pv 6)) (fun _ _ _ _ _ => (pe_bm PySem.F.plainAttrs_list PySem.F.slot_list_index PySem.F.type_list_index (mt_indexD (hu65 hr)) (pv 2) (pa_cons (pv 7) pa_nil)))) pa_nil)))))
      (pss_one (ps_ret (pcX C_p_lim hr (L2.passes_call (takes_of rfl rfl rfl rfl) (fun _ _ _ _ h => h)) (pa_cons (pe_tup (pa_cons (pv 5) (pa_cons (pe_lc (own := [("key", 4)]) (te := (tOrV (tOp rEq (tVar 4) (tC (.int (-1)))) (tNotV (tOp (rIxL K) (tOp (rIxT K) (tVar 1) (tC (.int 1))) (tVar 4))))) rfl sc_p_tt.nd (pi_list (pv 2)) (blkOk_by (N := ["signs", "table", "keys", "at", "key", "moves", "sign", "to"]) (sc := defScope s_p_tt) (by decide +kernel)) (fun _ _ _ _ _ => (pg_name (i := 4) sc_p_tt.nd rfl (Or.inl rfl))) (fun _ _ _ _ _ => pts_nil) (fun _ _ _ _ _ => (pe_or (pe_cmpR op_eq (pv 4) (pe_gint G.g_DEAD) (nomark _)) (pe_one (pe_not (pe_ix ix_list (pe_ix ix_tup (pv 1) pe_int (fun _ _ => rfl)) (pv 4) (fun _ _ => rfl))))))) pa_nil))) pa_nil)))))))), ?_⟩
    have nd := sgo.nodup
    have lsg := sgo.len.2
    have hUl : (optU s1).length ≤ 31 := by unfold optU; rw [List.length_cons, List.length_map, List.length_range]; omega
    have hU := turNx_U ro1
    generalize hUe : optU s1 = U at hUl hU
    have memU : ∀ k : Option Nat, k ∈ U → ∀ i, k = some i → i < s1.length := fun k hk => by rw [← hUe] at hk; exact mem_optU.mp hk
    have hR : turKs sg s1 = bfs (fun k => (turNx sg s1 k).map (·.2)) U.length [some 0] 0 := by rw [← hUe]; rfl
    have hst : (some 0 : Option Nat) ∈ U := by rw [← hUe]; exact mem_optU.mpr fun i e => by cases e; exact p1
    refine ⟨by show 1 ≤ sizeLine; decide, fun Kl hKl _ => ?_⟩
    refine ⟨fun m σ H2 => ∃ (n : Nat) (x5 : Option V) (ks : List (Option Nat)), m = U.length - n ∧ σ = [some (.str (SX.S sg)), some (.ref t1), some (.ref Kl), some (.int (n : Nat)), x5, none, none, none] ∧ Same H H2 ∧ H2 Kl = some (.lst (ks.map vK)) ∧
      At (fun k => (turNx sg s1 k).map (·.2)) U (turKs sg s1) ks n, ⟨U.length - 0, 0, none, [some 0], rfl, rfl, same_upd (Same.refl H) hKl, upd_same, by rw [hR]; exact At.start hst⟩, ?_⟩
    rintro m σ H2 ⟨n, x5, ks, rfl, rfl, e2, k1, a⟩
    have lks := nodup_len a.nd a.sub
    refine ⟨_, rfl, _, rfl, _, _, rfl, Of3.lst k1, _, _, rfl, rfl, _, rfl, ?_⟩
    rw [List.length_map]
    by_cases c : n < ks.length
    · rw [decide_eq_true (show ((n : Nat) : Int) < (ks.length : Nat) by omega)]
      refine iteT ⟨fun σ' H' => ∃ (x5 : Option V) (ks' : List (Option Nat)), σ' = [some (.str (SX.S sg)), some (.ref t1), some (.ref Kl), some (.int ((n + 1 : Nat) : Int)), x5, none, none, none] ∧ Same H H' ∧ H' Kl = some (.lst (ks'.map vK)) ∧
        At (fun k => (turNx sg s1 k).map (·.2)) U (turKs sg s1) ks' (n + 1), fun σ' H' ⟨x5, ks', h1, h2, h3, h5⟩ => ⟨U.length - (n + 1), by omega, n + 1, x5, ks', rfl, h1, h2, h3, h5⟩, ?_⟩
      obtain ⟨k, hk⟩ : ∃ k, ks[n]? = some k := ⟨ks[n], List.getElem?_eq_getElem c⟩
      have kb := memU k (a.sub k (List.mem_of_getElem? hk))
      have hpa : (ks.map vK)[n]? = some (vK k) := by rw [List.getElem?_map, hk]; rfl
      refine ⟨_, rfl, _, rfl, _, rfl, _, rfl, Kl, _, _, _, rfl, rfl, SqL.of k1, atI_nat hpa, t1, sg, s1, k, rfl, tb1.le e2, kb, nd, lsg, fun D H4 e4 hD v1 => ⟨D, _, rfl, v1, trivial, fun od => ?_⟩⟩
      have up : ∀ b o, H2 b = some o → (upd H4 D (.frz od (.dK (kTu (turNx sg s1 k))))) b = some o := fun b o hb => by
        rw [upd_ne (ne_of_none hb hD)]; exact e4 _ _ hb
      have e5 : Same H (upd H4 D (.frz od (.dK (kTu (turNx sg s1 k))))) := same_mut (e2.trans e4) (e2.free hD)
      have kD : (upd H4 D (.frz od (.dK (kTu (turNx sg s1 k))))) D = some (.frz od (.dK (kTu (turNx sg s1 k)))) := upd_same
      have k3 := up _ _ k1
      generalize upd H4 D (.frz od (.dK (kTu (turNx sg s1 k)))) = H5 at e5 kD k3
      refine ⟨D, od, _, rfl, kD, for_it walk_values (fun i σ H6 => ∃ (x5 : Option V), σ = [some (.str (SX.S sg)), some (.ref t1), some (.ref Kl), some (.int (n : Nat)), x5, none, none, none] ∧ Same H H6 ∧ H6 D = some (.frz od (.dK (kTu (turNx sg s1 k)))) ∧
        H6 Kl = some (.lst ((addAll ks (((turNx sg s1 k).map (·.2)).take i)).map vK))) ?_ ?_ ?_ ?_⟩
      · exact ⟨x5, rfl, e5, kD, k3⟩
      · rintro i σ H6 _ ⟨_, _, _, f2, _⟩
        exact f2
      · rintro i y σ H6 H7 hi ⟨x5', rfl, f1, f2, f4⟩ ⟨rfl, kk, hx⟩
        unfold kTu at hx
        rw [List.getElem?_map] at hx
        obtain ⟨⟨c', k'⟩, hl', hkv⟩ := Option.map_eq_some_iff.mp hx
        obtain ⟨rfl, rfl⟩ : (.inr ⟨#[c']⟩ : Key) = kk ∧ vK k' = y := ⟨congrArg Prod.fst hkv, congrArg Prod.snd hkv⟩
        have hv : ((turNx sg s1 k).map (·.2))[i]? = some k' := by rw [List.getElem?_map, hl']; rfl
        have lall : (addAll ks (((turNx sg s1 k).map (·.2)).take i)).length ≤ 40 := by
          have h1 : ∀ (xs ks : List (Option Nat)), (addAll ks xs).length ≤ ks.length + xs.length := by
            intro xs
            induction xs with
            | nil => intro ks; exact Nat.le_refl _
            | cons x xs ih =>
              intro ks
              have h2 := ih (addK ks x)
              have h3 : (addK ks x).length ≤ ks.length + 1 := by unfold addK; split <;> simp
              show (addAll (addK ks x) xs).length ≤ _
              rw [List.length_cons]; omega
          have h2 := h1 (((turNx sg s1 k).map (·.2)).take i) ks
          have h3 : (((turNx sg s1 k).map (·.2)).take i).length ≤ 4 := by
            have := turNx_len (sg := sg) (s := s1) (k := k)
            rw [List.length_take, List.length_map]; omega
          omega
        refine ⟨_, rfl, _, rfl, oD k', _, .int _, dp_okeys f4, enc_oD.shaped _, enc_oD.shapeds _, _, rfl, ?_⟩
        rw [take_snoc hv, addAll_snoc]
        unfold addK
        by_cases c2 : k' ∈ addAll ks (((turNx sg s1 k).map (·.2)).take i)
        · rw [enc_oD.any_pos c2, if_pos c2]
          exact iteF ⟨_, rfl, f1, f2, f4⟩
        · rw [enc_oD.any_neg c2, if_neg c2]
          refine iteT ⟨_, rfl, .inl ⟨rfl, _, SqL.of f4⟩, _, rfl, Kl, _, _, rfl, rfl, f4, by rw [List.length_map, sizeLine_eq]; omega, ?_⟩
          have nDK : D ≠ Kl := fun z => by rw [z, f4] at f2; cases f2
          exact ⟨_, rfl, same_mut f1 hKl, by rw [upd_ne nDK]; exact f2, by rw [upd_same, List.map_append]; rfl⟩
      · rintro σ H6 ⟨x5', rfl, f1, f2, f4⟩
        have e9 : ((turNx sg s1 k).map (·.2)).take (kTu (turNx sg s1 k)).length = (turNx sg s1 k).map (·.2) := by
          refine List.take_of_length_le ?_
          unfold kTu
          rw [List.length_map, List.length_map]
          exact Nat.le_refl _
        rw [e9] at f4
        exact ⟨_, rfl, _, _, rfl, rfl, x5', _, rfl, f1, f4, a.turn hU hk⟩
    · rw [decide_eq_false (show ¬ ((n : Nat) : Int) < (ks.length : Nat) by omega)]
      refine iteF ?_
      obtain ⟨ndR, clR, subR⟩ := a.closed (by omega)
      have eR := a.done (by omega)
      subst eR
      generalize hRe : turKs sg s1 = R at *
      have lR : R.length ≤ 31 := by omega
      refine ⟨by show 0 ≤ sizeLine; exact Nat.zero_le _, fun Ml hMl _ => ?_⟩
      have nMl : H Ml = none := e2.free hMl
      have nKM : Kl ≠ Ml := ne_of_none k1 hMl
      have e3 : Same H (upd H2 Ml (.lst [])) := same_upd e2 hMl
      have k3 : (upd H2 Ml (.lst [])) Kl = some (.lst (R.map vK)) := by rw [upd_ne nKM]; exact k1
      have k5 : (upd H2 Ml (.lst [])) Ml = some (.lst (([] : List Addr).map V.ref)) := upd_same
      generalize upd H2 Ml (.lst []) = H3 at e3 k3 k5
      refine ⟨_, rfl, Kl, rfl, ⟨_, SqL.of k3⟩, for_it (walk_list (xs := R.map vK)) (fun i σ H6 => ∃ (x5 : Option V) (ds : List Addr), σ = [some (.str (SX.S sg)), some (.ref t1), some (.ref Kl), some (.int (n : Nat)), x5, some (.ref Ml), none, none] ∧ Same H H6 ∧
        H6 Kl = some (.lst (R.map vK)) ∧ H6 Ml = some (.lst (ds.map V.ref)) ∧ Paired (fun d r => RowAt H6 d r) ds ((R.take i).map (rowTu sg s1 R))) ?_ ?_ ?_ ?_⟩
      · exact ⟨x5, [], rfl, e3, k3, k5, .nil⟩
      · rintro i σ H6 _ ⟨_, _, _, _, f2, _⟩
        exact SqL.of f2
      · rintro i y σ H6 H7 hi ⟨x5', ds, rfl, f1, f2, f4, f5⟩ ⟨rfl, hx⟩
        rw [List.getElem?_map] at hx
        obtain ⟨k, hk, rfl⟩ := Option.map_eq_some_iff.mp hx
        have hkR : k ∈ R := List.mem_of_getElem? hk
        have kb := memU k (subR k hkR)
        have lds : ds.length ≤ 31 := by
          have := paired_len f5
          rw [List.length_map, List.length_take] at this
          omega
        refine ⟨_, rfl, .inl ⟨rfl, _, SqL.of f4⟩, _, rfl, _, rfl, _, rfl, t1, sg, s1, k, rfl, tb1.le f1, kb, nd, lsg, fun D H8 e8 hD v1 => ⟨D, _, rfl, v1, trivial, fun od => ⟨D, od, _, rfl, upd_same, fun E hE => ?_⟩⟩⟩
        have up : ∀ b o, H7 b = some o → (upd H8 D (.frz od (.dK (kTu (turNx sg s1 k))))) b = some o := fun b o hb => by
          rw [upd_ne (ne_of_none hb hD)]; exact e8 _ _ hb
        have e9 : Same H (upd H8 D (.frz od (.dK (kTu (turNx sg s1 k))))) := same_mut (f1.trans e8) (f1.free hD)
        have kD : (upd H8 D (.frz od (.dK (kTu (turNx sg s1 k))))) D = some (.frz od (.dK (kTu (turNx sg s1 k)))) := upd_same
        have g2 := up _ _ f2
        have g4 := up _ _ f4
        have g5 : Paired (fun d r => RowAt (upd H8 D (.frz od (.dK (kTu (turNx sg s1 k))))) d r) ds ((R.take i).map (rowTu sg s1 R)) := L2.Paired.mapP f5 fun _ _ hb => up _ _ hb
        generalize upd H8 D (.frz od (.dK (kTu (turNx sg s1 k)))) = H9 at e9 kD g2 g4 g5 hE
        have nEM : Ml ≠ E := ne_of_none g4 hE
        refine dc_it walk_items (fun j H10 => Same H9 H10 ∧ H10 E = some (.dK (kRow ((rowTu sg s1 R k).take j)))) ?_ ?_ ?_ ?_
        · exact ⟨same_upd (Same.refl H9) hE, upd_same⟩
        · rintro j H10 _ ⟨h1, _⟩
          exact h1 _ _ kD
        · rintro j y H10 H11 hj ⟨h1, h2⟩ ⟨T1, kx, vx, rfl, hT1, rfl, hk1, hv1⟩
          have hk1 : (kTu (turNx sg s1 k))[j]?.map (fun kv => kV kv.1) = some kx := hk1
          have hv1 : (kTu (turNx sg s1 k))[j]?.map Prod.snd = some vx := hv1
          unfold kTu at hk1 hv1
          rw [List.getElem?_map] at hk1 hv1
          obtain ⟨c', k', hl'⟩ : ∃ c' k', (turNx sg s1 k)[j]? = some (c', k') := by
            cases q : (turNx sg s1 k)[j]? with
            | none => rw [q] at hk1; cases hk1
            | some kv => exact ⟨kv.1, kv.2, rfl⟩
          rw [hl'] at hk1 hv1
          obtain rfl : S1 c' = kx := Option.some.inj hk1
          obtain rfl : vK k' = vx := Option.some.inj hv1
          have hv : ((turNx sg s1 k).map (·.2))[j]? = some k' := by rw [List.getElem?_map, hl']; rfl
          have hkm : k' ∈ R := clR k hkR k' (List.mem_of_getElem? hv)
          have e12 := same_upd (o := .tup [S1 c', vK k']) h1 hT1
          have nTE : E ≠ T1 := ne_of_none h2 hT1
          have kE : (upd H10 T1 (.tup [S1 c', vK k'])) E = some (.dK (kRow ((rowTu sg s1 R k).take j))) := by rw [upd_ne nTE]; exact h2
          have hrow : (rowTu sg s1 R k)[j]? = some (c', ixOf R k') := by unfold rowTu; rw [List.getElem?_map, hl']; rfl
          refine ⟨T1, _, rfl, SqT.of upd_same, rfl, _, _, rfl, _, _, rfl, rfl, rfl, _, rfl, _, rfl, .inl ⟨rfl, _, SqL.of (e12 _ _ g2)⟩, _, rfl, ?_⟩
          generalize upd H10 T1 (.tup [S1 c', vK k']) = H12 at e12 kE
          unfold tNil
          dsimp only
          refine enc_oD.index hkm (dp_okeys (e12 _ _ g2)) (.int _) ?_
          refine ⟨_, .inr ⟨#[c']⟩, rfl, kE, ?_, same_mut e12 hE, ?_⟩
          · have h3 := turNx_len (sg := sg) (s := s1) (k := k)
            unfold kRow rowTu
            rw [List.length_map, List.length_take, List.length_map, sizeLine_eq]; omega
          · have hfst : sg[j]? = some c' := by
              have : ((turNx sg s1 k).map (·.1))[j]? = some c' := by rw [List.getElem?_map, hl']; rfl
              rw [turNx_fst] at this
              exact this
            rw [upd_same, put_row (sg := sg.take j) ?_ (take_not_mem nd hfst), take_snoc hrow]
            · unfold kRow
              rw [List.map_append]; rfl
            · intro kv hkv
              obtain ⟨q, hq, rfl⟩ := List.mem_map.mp hkv
              refine ⟨q.1, ?_, rfl⟩
              unfold rowTu at hq
              rw [← List.map_take] at hq
              obtain ⟨q', hq', rfl⟩ := List.mem_map.mp hq
              have : q'.1 ∈ ((turNx sg s1 k).take j).map (·.1) := List.mem_map.mpr ⟨q', hq', rfl⟩
              rw [List.map_take, turNx_fst] at this
              exact this
        · rintro H10 ⟨h1, h2⟩
          have e13 : (rowTu sg s1 R k).take (kTu (turNx sg s1 k)).length = rowTu sg s1 R k := by
            refine List.take_of_length_le ?_
            unfold rowTu kTu
            rw [List.length_map, List.length_map]
            exact Nat.le_refl _
          rw [e13] at h2
          have h4 := h1 _ _ g4
          refine ⟨Ml, _, _, rfl, rfl, h4, by rw [List.length_map, sizeLine_eq]; omega, ?_⟩
          have hle : ∀ b o, (∀ l, o ≠ .lst l) → H10 b = some o → (upd H10 Ml (.lst (ds.map V.ref ++ [.ref E]))) b = some o := fun b o ho hb => by
            rw [upd_ne (fun z => by rw [z, h4] at hb; cases hb; exact ho _ rfl)]; exact hb
          refine ⟨_, ds ++ [E], rfl, same_mut (e9.trans h1) nMl, ?_, by rw [upd_same, List.map_append]; rfl, ?_⟩
          · rw [upd_ne nKM]; exact h1 _ _ g2
          · rw [take_snoc hk, List.map_append]
            exact paired_snoc (L2.Paired.mapP g5 fun _ _ h => hle _ _ (by intro l z; cases z) (h1 _ _ h)) (hle _ _ (by intro l z; cases z) h2)
      · rintro σ H6 ⟨x5', ds, rfl, f1, f2, f4, f5⟩
        rw [List.length_map, List.take_of_length_le (Nat.le_refl _)] at f5
        obtain ⟨lm1, lg1, ds1, a0, a1, a2, a3⟩ := (tb1.le f1).ex
        have lds : ds.length = R.length := by
          have := paired_len f5
          rw [List.length_map] at this
          exact this
        refine ⟨_, rfl, _, rfl, Kl, rfl, ⟨_, SqL.of f2⟩, fun G hG => ?_⟩
        have nGM : Ml ≠ G := ne_of_none f4 hG
        refine lc_it (walk_list (xs := R.map vK)) (fun i H7 => Same H6 H7 ∧ H7 G = some (.lst ((R.take i).map fun k => V.bl (goodTu s1 k)))) ?_ ?_ ?_ ?_
        · exact ⟨same_upd (Same.refl H6) hG, upd_same⟩
        · rintro i H7 _ ⟨g1, _⟩
          exact SqL.of (g1 _ _ f2)
        · rintro i y H7 H8 hi ⟨g1, g2⟩ ⟨rfl, hx⟩
          rw [List.getElem?_map] at hx
          obtain ⟨k, hk, rfl⟩ := Option.map_eq_some_iff.mp hx
          have kb := memU k (subR k (List.mem_of_getElem? hk))
          have fin : ∃ acc, H8 G = some (.lst acc) ∧ acc.length < sizeLine ∧ Same H6 (upd H8 G (.lst (acc ++ [V.bl (goodTu s1 k)]))) ∧ (upd H8 G (.lst (acc ++ [V.bl (goodTu s1 k)]))) G = some (.lst ((R.take (i + 1)).map fun k => V.bl (goodTu s1 k))) := by
            refine ⟨_, g2, by rw [List.length_map, List.length_take, sizeLine_eq]; omega, same_mut g1 hG, ?_⟩
            rw [upd_same, take_snoc hk, List.map_append]; rfl
          refine ⟨rfl, _, rfl, rfl, _, rfl, ?_⟩
          cases k with
          | none =>
            rw [show decide (vK none = V.int (-1)) = true from decide_eq_true rfl]
            exact iteT fin
          | some i' =>
            rw [decide_eq_false (show ¬ vK (some i') = V.int (-1) from fun z => by injection z with z; have : ((i' : Nat) : Int) = -1 := z; omega)]
            have kb1 := kb i' rfl
            have c1 : (s1.map fun p => V.bl p.2)[i']? = some (.bl (goodAt s1 i')) := by
              unfold goodAt
              rw [List.getElem?_map, List.getElem?_eq_getElem kb1, List.getD_eq_getElem?_getD, List.getElem?_eq_getElem kb1]; rfl
            exact iteF ⟨_, rfl, t1, _, 1, .ref lg1, rfl, rfl, SqT.of (g1 _ _ a0), rfl, _, rfl, lg1, _, _, _, rfl, rfl, SqL.of (g1 _ _ a2), atI_nat c1, _, rfl, fin⟩
        · rintro H7 ⟨g1, g2⟩
          rw [List.length_map, List.take_of_length_le (Nat.le_refl _)] at g2
          refine ⟨by show 2 ≤ sizeLine; decide, fun t ht => ?_⟩
          have e20 := same_upd (o := .tup [.ref Ml, .ref G]) (Same.refl H7) ht
          have e21 := (f1.trans g1).trans e20
          have lmet : (turned sg s1).length = R.length := by rw [turned_eq, hRe, List.length_map]
          refine ⟨t, Ml, .ref G, ds.map V.ref, rfl, upd_same, e20 _ _ (g1 _ _ f4), by rw [List.length_map]; omega, fun hle => ?_, fun hlt => ?_⟩
          · rw [List.length_map] at hle
            refine q1 (by omega) t _ e21 ⟨Ml, G, ds, upd_same, e20 _ _ (g1 _ _ f4), ?_, ?_⟩
            · rw [turned_eq, hRe, List.map_map]
              exact e20 _ _ g2
            · rw [turned_eq, hRe]
              have h1 : Paired (fun d r => RowAt (upd H7 t (.tup [.ref Ml, .ref G])) d r) ds (R.map (rowTu sg s1 R)) := L2.Paired.mapP f5 fun _ _ h => e20 _ _ (g1 _ _ h)
              have h2 : ∀ {ds : List Addr} {R' : List (Option Nat)}, Paired (fun d r => RowAt (upd H7 t (.tup [.ref Ml, .ref G])) d r) ds (R'.map (rowTu sg s1 R)) → Paired (fun d (p : Row × Bool) => RowAt (upd H7 t (.tup [.ref Ml, .ref G])) d p.1) ds (R'.map fun k => (rowTu sg s1 R k, goodTu s1 k)) := by
                intro ds R'
                induction R' generalizing ds with
                | nil => intro h; cases h; exact .nil
                | cons k R' ih =>
                  intro h
                  cases h with
                  | cons a b => exact .cons a (ih b)
              exact h2 h1
          · rw [List.length_map] at hlt
            exact (q2 (by omega)).le e21
end
end Fs
namespace Fs
open PySem PySem.Spec PyProof.Rows L2 SlX RZ
/-! ### what the searches find is right -/
section
variable {κ : Type} [DecidableEq κ]
theorem At.finish {nx : κ → List κ} {U R : List κ} (hU : ∀ k ∈ U, ∀ x ∈ nx k, x ∈ U) : ∀ (m : Nat) {ks : List κ} {i : Nat}, U.length - i = m → At nx U R ks i → R.Nodup ∧ (∀ k ∈ R, ∀ x ∈ nx k, x ∈ R) ∧ (∀ k ∈ R, k ∈ U) ∧ ∀ k ∈ ks, k ∈ R := by
  intro m
  induction m with
  | zero =>
    intro ks i e a
    have h1 := nodup_len a.nd a.sub
    have h2 := a.le
    obtain ⟨b1, b2, b3⟩ := a.closed (by omega)
    have e2 := a.done (by omega)
    exact ⟨b1, b2, b3, fun k hk => e2 ▸ hk⟩
  | succ m ih =>
    intro ks i e a
    by_cases c : i < ks.length
    · have hk : ks[i]? = some ks[i] := List.getElem?_eq_getElem c
      obtain ⟨b1, b2, b3, b4⟩ := ih (by omega) (a.turn hU hk)
      refine ⟨b1, b2, b3, fun k hk => b4 k ?_⟩
      rw [addAll_mem]
      exact .inl hk
    · obtain ⟨b1, b2, b3⟩ := a.closed (by omega)
      have e2 := a.done (by omega)
      exact ⟨b1, b2, b3, fun k hk => e2 ▸ hk⟩
theorem ixOf_lt {ks : List κ} {k : κ} (h : k ∈ ks) : ixOf ks k < ks.length := by
  have := ixOf_get h
  exact (List.getElem?_eq_some_iff.mp this).1
end
theorem metKs_ok {sg : List Nat} {s1 s2 : Sts} (h1 : RowsOk sg s1) (h2 : RowsOk sg s2) (p1 : 1 ≤ s1.length) (p2 : 1 ≤ s2.length) : (metKs sg s1 s2).Nodup ∧ (∀ k ∈ metKs sg s1 s2, ∀ x ∈ (metNx sg s1 s2 k).map (·.2), x ∈ metKs sg s1 s2) ∧ (∀ k ∈ metKs sg s1 s2, k ∈ pairsU s1 s2) ∧ (0, 0) ∈ metKs sg s1 s2 := by
  obtain ⟨a, b, c, d⟩ := At.finish (nx := fun k => (metNx sg s1 s2 k).map (·.2)) (metNx_U h1 h2) _ rfl (At.start (k := ((0, 0) : Key2)) (mem_pairsU.mpr ⟨p1, p2⟩))
  exact ⟨a, b, c, d _ (List.mem_singleton.mpr rfl)⟩
theorem turKs_ok {sg : List Nat} {s : Sts} (h : RowsOk sg s) (p : 1 ≤ s.length) : (turKs sg s).Nodup ∧ (∀ k ∈ turKs sg s, ∀ x ∈ (turNx sg s k).map (·.2), x ∈ turKs sg s) ∧ (∀ k ∈ turKs sg s, k ∈ optU s) ∧ some 0 ∈ turKs sg s := by
  obtain ⟨a, b, c, d⟩ := At.finish (nx := fun k => (turNx sg s k).map (·.2)) (turNx_U h) _ rfl (At.start (k := some 0) (mem_optU.mpr fun i e => by cases e; exact p))
  exact ⟨a, b, c, d _ (List.mem_singleton.mpr rfl)⟩
theorem met_rows {sg : List Nat} {s1 s2 : Sts} (h1 : RowsOk sg s1) (h2 : RowsOk sg s2) (p1 : 1 ≤ s1.length) (p2 : 1 ≤ s2.length) : RowsOk sg (met sg s1 s2) ∧ 1 ≤ (met sg s1 s2).length ∧ (met sg s1 s2).length ≤ s1.length * s2.length := by
  obtain ⟨a, b, c, d⟩ := metKs_ok h1 h2 p1 p2
  have l : (met sg s1 s2).length = (metKs sg s1 s2).length := by rw [met_eq, List.length_map]
  refine ⟨fun p hp => ?_, ?_, ?_⟩
  · rw [l]
    rw [met_eq] at hp
    obtain ⟨k, hk, rfl⟩ := List.mem_map.mp hp
    refine ⟨?_, fun q hq => ?_⟩
    · show ((rowOf sg s1 s2 (metKs sg s1 s2) k).map (·.1)).Sublist sg
      unfold rowOf
      rw [List.map_map]
      exact metNx_sub
    · obtain ⟨m, hm, rfl⟩ := List.mem_map.mp hq
      exact ixOf_lt (b k hk _ (List.mem_map.mpr ⟨m, hm, rfl⟩))
  · rw [l]; exact List.length_pos_of_mem d
  · rw [l, ← pairsU_len]; exact nodup_len a c
theorem turned_rows {sg : List Nat} {s : Sts} (h : RowsOk sg s) (p : 1 ≤ s.length) : RowsOk sg (turned sg s) ∧ 1 ≤ (turned sg s).length ∧ (turned sg s).length ≤ s.length + 1 := by
  obtain ⟨a, b, c, d⟩ := turKs_ok h p
  have l : (turned sg s).length = (turKs sg s).length := by rw [turned_eq, List.length_map]
  refine ⟨fun p hp => ?_, ?_, ?_⟩
  · rw [l]
    rw [turned_eq] at hp
    obtain ⟨k, hk, rfl⟩ := List.mem_map.mp hp
    refine ⟨?_, fun q hq => ?_⟩
    · show ((rowTu sg s (turKs sg s) k).map (·.1)).Sublist sg
      unfold rowTu
      rw [List.map_map]
      have := turNx_fst (sg := sg) (s := s) (k := k)
      show ((turNx sg s k).map (·.1)).Sublist sg
      rw [this]
      exact List.Sublist.refl _
    · obtain ⟨m, hm, rfl⟩ := List.mem_map.mp hq
      exact ixOf_lt (b k hk _ (List.mem_map.mpr ⟨m, hm, rfl⟩))
  · rw [l]; exact List.length_pos_of_mem d
  · have := nodup_len a c
    unfold optU at this
    rw [List.length_cons, List.length_map, List.length_range] at this
    rw [l]; exact this
theorem StsOk.rowsOk {sg : List Nat} {s : Sts} (h : StsOk sg s) : RowsOk sg s := h.rows
theorem RuAt.tab {H : Hp} {x C : Addr} {sg : List Nat} {st : Sts} {dx lg lm : Addr} {ds : List Addr} {t : Addr} (h1 : H lg = some (.lst (st.map fun p => .bl p.2))) (h2 : H lm = some (.lst (ds.map V.ref))) (h3 : Paired (fun d p => RowAt H d p.1) ds st) (ht : H t = none) : TabT (upd H t (.tup [.ref lm, .ref lg])) t st := by
  have e := same_upd (o := .tup [.ref lm, .ref lg]) (Same.refl H) ht
  exact ⟨lm, lg, ds, upd_same, e _ _ h2, e _ _ h1, L2.Paired.mapP h3 fun _ _ h => e _ _ h⟩
section
variable {P : Program} {w : World} {K : PySem.W.Frag} {mg : Str → Option Value} {base : Heap} {C TM : Addr} {f : Addr} {fd : FuncData}
def spAnd (C TM : Addr) : Sp := fun vs H Q E => ∃ (x y : Addr) (sg : List Nat) (s1 s2 : Sts), vs = [.ref x, .ref y] ∧ RuAt H x C sg s1 ∧ RuAt H y C sg s2 ∧ SgOk sg ∧ StsOk sg s1 ∧ StsOk sg s2 ∧
  ((met sg s1 s2).length ≤ 6 → ∀ (z : Addr) (H' : Hp), Same H H' → H z = none → RuAt H' z C sg (met sg s1 s2) → Q (.ref z) H') ∧ (6 < (met sg s1 s2).length → TooX TM E H)
abbrev s_m_and : Stmt := inClass (top 27) 9
theorem sc_m_and : FnScope ["self", "other"] ["self", "other"] (defScope s_m_and) := ⟨rfl, rfl, rfl, by decide +kernel, rfl, by decide +kernel, by decide +kernel⟩
theorem fn_and (Z : Rx K mg C) (F : L2.Fun K "__and__" "Rule.__and__" s_m_and f fd) (C_p_like : CalP P w K mg base CX0 1 "require_like" (spLike C)) (C_p_rule : CalP P w K mg base CX0 6 "rule_of" (spRuleOf C)) (C_p_mt : CalP P w K mg base (L2.CX P w) 3 "met_table" (spMt TM)) (C_p_tt : CalP P w K mg base (L2.CX P w) 3 "turned_table" (spTt TM)) (C_p_table : CalP P w K mg base CX0 1 "table_of" (spTable C)) : FnOk P w K mg base (L2.CX P w) 7 f fd ["self", "other"] (spAnd C TM) := by
  refine F.okX sc_m_and (fun vs H Q E h => ?_) (fun cdv A outer s H vs Q E hr h => ?_)
  · obtain ⟨x, y, sg, s1, s2, rfl, _⟩ := h
    rfl
  · obtain ⟨x, y, sg, s1, s2, rfl, rx, ry, sgo, o1, o2, k1, k2⟩ := h
    refine ⟨_, pss_cons (ps_expr (pcP C_p_like hr (pa_cons (pv 0) (pa_cons (pv 1) pa_nil))))
      (pss_one (ps_ret (pcP C_p_rule hr (pa_cons (pe_sl (pv 0)) (pa_cons (pcX C_p_mt hr (L2.passes_call (takes_of rfl rfl rfl rfl) (fun _ _ _ _ h => h)) (pa_cons (pe_sl (pv 0)) (pa_cons (pcP C_p_table hr (pa_cons (pv 0) pa_nil)) (pa_cons (pcP C_p_table hr (pa_cons (pv 1) pa_nil)) pa_nil)))) pa_nil))))), ?_⟩
    obtain ⟨p2, t2⟩ := Z.t2
    have rx' := rx
    have ry' := ry
    obtain ⟨dx, lg, lm, ds, sl, a1, a2, a3⟩ := rx'
    obtain ⟨dy, lg2, lm2, ds2, sl2, b1, b2, b3⟩ := ry'
    refine ⟨_, rfl, _, rfl, x, y, sg, s1, s2, rfl, rx, ry, ?_⟩
    refine ⟨_, rfl, x, C, dx, p2, _, 2, _, rfl, sl, Z.sc, t2, rfl, _, rfl, x, C, dx, p2, _, 2, _, rfl, sl, Z.sc, t2, rfl, _, rfl, x, dx, lg, lm, _, rfl, sl, fun ta hta => ?_⟩
    have ea := same_upd (o := .tup [.ref lm, .ref lg]) (Same.refl H) hta
    have tab1 := RuAt.tab (x := x) (C := C) (sg := sg) (dx := dx) a1 a2 a3 hta
    generalize upd H ta (.tup [.ref lm, .ref lg]) = H1 at ea tab1
    refine ⟨_, rfl, y, dy, lg2, lm2, _, rfl, slt_mono sl2 ea, fun tb htb => ?_⟩
    have eb := same_upd (o := .tup [.ref lm2, .ref lg2]) (Same.refl H1) htb
    have tab2 := RuAt.tab (x := y) (C := C) (sg := sg) (dx := dy) (ea _ _ b1) (ea _ _ b2) (L2.Paired.mapP b3 fun _ _ h => ea _ _ h) htb
    generalize upd H1 tb (.tup [.ref lm2, .ref lg2]) = H2 at eb tab2
    have e2 := ea.trans eb
    have m1 := o1.most
    have m2 := o2.most
    obtain ⟨r1, r2, r3⟩ := met_rows o1.rowsOk o2.rowsOk o1.pos o2.pos
    refine ⟨ta, tb, sg, s1, s2, rfl, tab1.le eb, tab2, o1.rowsOk, o2.rowsOk, o1.pos, o2.pos, by omega, by omega, sgo, fun hle t H3 e3 tab => ?_, fun hlt => (k2 hlt).le e2⟩
    exact ⟨t, sg, _, rfl, tab, sgo, ⟨r2, hle, r1⟩, fun z H4 e4 hz ru => k1 hle z H4 ((e2.trans e3).trans e4) ((e2.trans e3).free hz) ru⟩
def spNeg (C TM : Addr) : Sp := fun vs H Q E => ∃ (x : Addr) (sg : List Nat) (s1 : Sts), vs = [.ref x] ∧ RuAt H x C sg s1 ∧ SgOk sg ∧ StsOk sg s1 ∧
  ((turned sg s1).length ≤ 6 → ∀ (z : Addr) (H' : Hp), Same H H' → H z = none → RuAt H' z C sg (turned sg s1) → Q (.ref z) H') ∧ (6 < (turned sg s1).length → TooX TM E H)
abbrev s_m_negated : Stmt := inClass (top 27) 10
theorem sc_m_negated : FnScope ["self"] ["self"] (defScope s_m_negated) := ⟨rfl, rfl, rfl, by decide +kernel, rfl, by decide +kernel, by decide +kernel⟩
theorem fn_negated (Z : Rx K mg C) (F : L2.Fun K "negated" "Rule.negated" s_m_negated f fd) (C_p_like : CalP P w K mg base CX0 1 "require_like" (spLike C)) (C_p_rule : CalP P w K mg base CX0 6 "rule_of" (spRuleOf C)) (C_p_mt : CalP P w K mg base (L2.CX P w) 3 "met_table" (spMt TM)) (C_p_tt : CalP P w K mg base (L2.CX P w) 3 "turned_table" (spTt TM)) (C_p_table : CalP P w K mg base CX0 1 "table_of" (spTable C)) : FnOk P w K mg base (L2.CX P w) 7 f fd ["self"] (spNeg C TM) := by
  refine F.okX sc_m_negated (fun vs H Q E h => ?_) (fun cdv A outer s H vs Q E hr h => ?_)
  · obtain ⟨x, sg, s1, rfl, _⟩ := h
    rfl
  · obtain ⟨x, sg, s1, rfl, rx, sgo, o1, k1, k2⟩ := h
    refine ⟨_, pss_one (ps_ret (pcP C_p_rule hr (pa_cons (pe_sl (pv 0)) (pa_cons (pcX C_p_tt hr (L2.passes_call (takes_of rfl rfl rfl rfl) (fun _ _ _ _ h => h)) (pa_cons (pe_sl (pv 0)) (pa_cons (pcP C_p_table hr (pa_cons (pv 0) pa_nil)) pa_nil))) pa_nil)))), ?_⟩
    obtain ⟨p2, t2⟩ := Z.t2
    have rx' := rx
    obtain ⟨dx, lg, lm, ds, sl, a1, a2, a3⟩ := rx'
    refine ⟨_, rfl, x, C, dx, p2, _, 2, _, rfl, sl, Z.sc, t2, rfl, _, rfl, x, C, dx, p2, _, 2, _, rfl, sl, Z.sc, t2, rfl, _, rfl, x, dx, lg, lm, _, rfl, sl, fun ta hta => ?_⟩
    have ea := same_upd (o := .tup [.ref lm, .ref lg]) (Same.refl H) hta
    have tab1 := RuAt.tab (x := x) (C := C) (sg := sg) (dx := dx) a1 a2 a3 hta
    generalize upd H ta (.tup [.ref lm, .ref lg]) = H1 at ea tab1
    have m1 := o1.most
    obtain ⟨r1, r2, r3⟩ := turned_rows o1.rowsOk o1.pos
    refine ⟨ta, sg, s1, rfl, tab1, o1.rowsOk, o1.pos, by omega, sgo, fun hle t H3 e3 tab => ?_, fun hlt => (k2 hlt).le ea⟩
    exact ⟨t, sg, _, rfl, tab, sgo, ⟨r2, hle, r1⟩, fun z H4 e4 hz ru => k1 hle z H4 ((ea.trans e3).trans e4) ((ea.trans e3).free hz) ru⟩
/-- all parts of a rule for either are small -/
def orSmall (sg : List Nat) (s1 s2 : Sts) : Prop := (turned sg s1).length ≤ 6 ∧ (turned sg s2).length ≤ 6 ∧ (met sg (turned sg s1) (turned sg s2)).length ≤ 6 ∧ (turned sg (met sg (turned sg s1) (turned sg s2))).length ≤ 6
def orRule (sg : List Nat) (s1 s2 : Sts) : Sts := turned sg (met sg (turned sg s1) (turned sg s2))
def spOr (C TM : Addr) : Sp := fun vs H Q E => ∃ (x y : Addr) (sg : List Nat) (s1 s2 : Sts), vs = [.ref x, .ref y] ∧ RuAt H x C sg s1 ∧ RuAt H y C sg s2 ∧ SgOk sg ∧ StsOk sg s1 ∧ StsOk sg s2 ∧
  (orSmall sg s1 s2 → ∀ (z : Addr) (H' : Hp), Same H H' → H z = none → RuAt H' z C sg (orRule sg s1 s2) → Q (.ref z) H') ∧ (¬ orSmall sg s1 s2 → TooX TM E H)
abbrev s_m_or : Stmt := inClass (top 27) 11
theorem sc_m_or : FnScope ["self", "other", "signs", "both"] ["self", "other"] (defScope s_m_or) := ⟨rfl, rfl, rfl, by decide +kernel, rfl, by decide +kernel, by decide +kernel⟩
theorem fn_or (Z : Rx K mg C) (F : L2.Fun K "__or__" "Rule.__or__" s_m_or f fd) (C_p_like : CalP P w K mg base CX0 1 "require_like" (spLike C)) (C_p_rule : CalP P w K mg base CX0 6 "rule_of" (spRuleOf C)) (C_p_mt : CalP P w K mg base (L2.CX P w) 3 "met_table" (spMt TM)) (C_p_tt : CalP P w K mg base (L2.CX P w) 3 "turned_table" (spTt TM)) (C_p_table : CalP P w K mg base CX0 1 "table_of" (spTable C)) : FnOk P w K mg base (L2.CX P w) 7 f fd ["self", "other"] (spOr C TM) := by
  refine F.okX sc_m_or (fun vs H Q E h => ?_) (fun cdv A outer s H vs Q E hr h => ?_)
  · obtain ⟨x, y, sg, s1, s2, rfl, _⟩ := h
    rfl
  · obtain ⟨x, y, sg, s1, s2, rfl, rx, ry, sgo, o1, o2, k1, k2⟩ := h
    refine ⟨_, pss_cons (ps_expr (pcP C_p_like hr (pa_cons (pv 0) (pa_cons (pv 1) pa_nil))))
      (pss_cons (ps_set (i := 2) sc_m_or.nd rfl (.inl rfl) (pe_sl (pv 0)))
      (pss_cons (ps_set (i := 3) sc_m_or.nd rfl (.inl rfl) (pcX C_p_mt hr (L2.passes_call (takes_of rfl rfl rfl rfl) (fun _ _ _ _ h => h)) (pa_cons (pv 2) (pa_cons (pcX C_p_tt hr (L2.passes_call (takes_of rfl rfl rfl rfl) (fun _ _ _ _ h => h)) (pa_cons (pv 2) (pa_cons (pcP C_p_table hr (pa_cons (pv 0) pa_nil)) pa_nil))) (pa_cons (pcX C_p_tt hr (L2.passes_call (takes_of rfl rfl rfl rfl) (fun _ _ _ _ h => h)) (pa_cons (pv 2) (pa_cons (pcP C_p_table hr (pa_cons (pv 1) pa_nil)) pa_nil))) pa_nil)))))
      (pss_one (ps_ret (pcP C_p_rule hr (pa_cons (pv 2) (pa_cons (pcX C_p_tt hr (L2.passes_call (takes_of rfl rfl rfl rfl) (fun _ _ _ _ h => h)) (pa_cons (pv 2) (pa_cons (pv 3) pa_nil))) pa_nil))))))), ?_⟩

-- Rule.counting: NO: call of cls

-- Rule.of_words: NO: slice of val: word[:size + 1]
    obtain ⟨p2, t2⟩ := Z.t2
    have rx' := rx
    have ry' := ry
    obtain ⟨dx, lg, lm, ds, sl, a1, a2, a3⟩ := rx'
    obtain ⟨dy, lg2, lm2, ds2, sl2, b1, b2, b3⟩ := ry'
    have m1 := o1.most
    have m2 := o2.most
    obtain ⟨r1, r2, r3⟩ := turned_rows o1.rowsOk o1.pos
    obtain ⟨q1, q2, q3⟩ := turned_rows o2.rowsOk o2.pos
    obtain ⟨v1, v2, v3⟩ := met_rows r1 q1 r2 q2
    obtain ⟨w1, w2, w3⟩ := turned_rows v1 v2
    refine ⟨_, rfl, _, rfl, x, y, sg, s1, s2, rfl, rx, ry, ?_⟩
    refine ⟨_, rfl, x, C, dx, p2, _, 2, _, rfl, sl, Z.sc, t2, rfl, ?_⟩
    refine ⟨_, rfl, _, rfl, _, rfl, x, dx, lg, lm, _, rfl, sl, fun ta hta => ?_⟩
    have ea := same_upd (o := .tup [.ref lm, .ref lg]) (Same.refl H) hta
    have tab1 := RuAt.tab (x := x) (C := C) (sg := sg) (dx := dx) a1 a2 a3 hta
    generalize upd H ta (.tup [.ref lm, .ref lg]) = H1 at ea tab1
    refine ⟨ta, sg, s1, rfl, tab1, o1.rowsOk, o1.pos, by omega, sgo, fun hle1 t3 H3 e3 tab3 => ?_, fun hlt => (k2 fun z => by have := z.1; omega).le ea⟩
    have e03 := ea.trans e3
    refine ⟨_, rfl, _, rfl, y, dy, lg2, lm2, _, rfl, slt_mono sl2 e03, fun tb htb => ?_⟩
    have eb := same_upd (o := .tup [.ref lm2, .ref lg2]) (Same.refl H3) htb
    have tab2 := RuAt.tab (x := y) (C := C) (sg := sg) (dx := dy) (e03 _ _ b1) (e03 _ _ b2) (L2.Paired.mapP b3 fun _ _ h => e03 _ _ h) htb
    generalize upd H3 tb (.tup [.ref lm2, .ref lg2]) = H4 at eb tab2
    have e04 := e03.trans eb
    refine ⟨tb, sg, s2, rfl, tab2, o2.rowsOk, o2.pos, by omega, sgo, fun hle2 t5 H5 e5 tab5 => ?_, fun hlt => (k2 fun z => by have := z.2.1; omega).le e04⟩
    have e05 := e04.trans e5
    refine ⟨t3, t5, sg, _, _, rfl, (tab3.le eb).le e5, tab5, r1, q1, r2, q2, by omega, by omega, sgo, fun hle3 t6 H6 e6 tab6 => ?_, fun hlt => (k2 fun z => by have := z.2.2.1; omega).le e05⟩
    have e06 := e05.trans e6
    refine ⟨_, rfl, _, rfl, _, rfl, t6, sg, _, rfl, tab6, v1, v2, by omega, sgo, fun hle4 t7 H7 e7 tab7 => ?_, fun hlt => (k2 fun z => by have := z.2.2.2; omega).le e06⟩
    have e07 := e06.trans e7
    exact ⟨t7, sg, _, rfl, tab7, sgo, ⟨w2, hle4, w1⟩, fun z H8 e8 hz ru => k1 ⟨hle1, hle2, hle3, hle4⟩ z H8 (e07.trans e8) (e07.free hz) ru⟩
end
end Fs
namespace Fs
open PySem PySem.Spec PyProof.Rows L2 SlX RZ
/-! ### C(e, ..), C in a variable -/
section
variable {X : Cx} {CX : CXT} {k i : Nat} {f C : Addr} {sp : Sp} {E : XK} {x : Str} {e : Expr} {es : List Expr} {t : TA} {p pos : Pos}
theorem pe_makeV (M : L2.Mk X.K C f) (F : FnR X.prog X.w X.K X.mg X.base CX k f sp) (hr : Room (k + 1) X.A) (hv : PE X (.Name x p) (tVar i)) (hx : Passes CX X E) (ha : PA X (e :: es) t)
    (he : starEach (e :: es) X.env = (false, eval e X.env) :: starEach es X.env := by rfl) (hpl : (backTo pos (starEach es X.env)).any (·.1) = false := by rfl) :
    PE X (.Call (.Name x p) (e :: es) [] pos) (fun σ H Q => σ[i]? = some (some (.ref C)) ∧ StX.tMakeR C sp E t σ H Q) := by
  refine ⟨fun pins s σ H Q I h => ?_⟩
  obtain ⟨hC, h⟩ := h
  refine wpAny_Call_Name_kw (thn (hv.run pins s σ H (fun v H1 => v = .ref C ∧ H1 = H) I ⟨.ref C, hC, rfl, rfl⟩) fun u s1 ⟨v, H1, I1, r1, ev, eH⟩ => ?_)
  subst ev
  rw [eH] at I1
  obtain rfl : u = Value.ref C := r1
  refine PySem.W.callWith_K (h₀ := X.base) I1.ok.mod.kin M.kp (thn (ha.run pos pins s1 σ H _ I1 h) fun us s2 ⟨vs, H2, I2, r, q⟩ => ⟨I2.kIn, ?_⟩) he hpl
  exact StX.run_makeR M F hr hx I2 r q
end
/-! ### counting rules -/
def countSts (sg cd : List Nat) (m r : Nat) : Sts := (List.range m).map fun i => (sg.map fun c => (c, if c ∈ cd then (i + 1) % m else i), decide (i = r))
theorem filter_sub : ∀ {sg cd : List Nat}, cd.Sublist sg → sg.Nodup → sg.filter (fun c => decide (c ∈ cd)) = cd
  | [], cd, h, _ => by rw [List.sublist_nil.mp h]; rfl
  | c :: sg, cd, h, nd => by
    have nd' := List.nodup_cons.mp nd
    cases h with
    | cons _ h' =>
      have hc : c ∉ cd := fun q => nd'.1 (h'.subset q)
      rw [List.filter_cons, decide_eq_false hc]
      exact filter_sub h' nd'.2
    | cons_cons _ h' =>
      rename_i cd'
      rw [List.filter_cons, decide_eq_true (List.mem_cons_self ..)]
      have e : sg.filter (fun d => decide (d ∈ c :: cd')) = sg.filter (fun d => decide (d ∈ cd')) := by
        refine List.filter_congr fun d hd => ?_
        have : d ≠ c := fun z => nd'.1 (z ▸ hd)
        simp [this]
      show c :: sg.filter (fun d => decide (d ∈ c :: cd')) = _
      rw [e, filter_sub h' nd'.2]
theorem countSts_ok {sg cd : List Nat} {m r : Nat} (h1 : 1 ≤ m) (h2 : m ≤ 6) : StsOk sg (countSts sg cd m r) := by
  have l : (countSts sg cd m r).length = m := by unfold countSts; rw [List.length_map, List.length_range]
  refine ⟨by omega, by omega, fun p hp => ?_⟩
  rw [l]
  obtain ⟨i, hi, rfl⟩ := List.mem_map.mp hp
  have hi := List.mem_range.mp hi
  refine ⟨?_, fun q hq => ?_⟩
  · show ((sg.map fun c => (c, if c ∈ cd then (i + 1) % m else i)).map (·.1)).Sublist sg
    rw [List.map_map]
    show (sg.map fun c => c).Sublist sg
    rw [List.map_id' sg]
    exact List.Sublist.refl _
  · obtain ⟨c, _, rfl⟩ := List.mem_map.mp hq
    show (if c ∈ cd then (i + 1) % m else i) < m
    split
    · exact Nat.mod_lt _ (by omega)
    · exact hi
section
variable {P : Program} {w : World} {K : PySem.W.Frag} {mg : Str → Option Value} {base : Heap} {C TM : Addr} {f : Addr} {fd : FuncData}
def spCount (C : Addr) : Sp := fun vs H Q _ => ∃ (sg cd : List Nat) (m r : Nat), vs = [.ref C, .str (SX.S sg), .str (SX.S cd), .int (m : Nat), .int (r : Nat)] ∧ SgOk sg ∧ cd.Sublist sg ∧ 1 ≤ m ∧ m ≤ 6 ∧ r < m ∧ ∀ (z : Addr) (H' : Hp), Same H H' → H z = none → RuAt H' z C sg (countSts sg cd m r) → Q (.ref z) H'
abbrev s_m_counting : Stmt := inClass (top 27) 3
theorem sc_m_counting : FnScope ["cls", "signs", "counted", "by", "rest", "states", "at", "sign"] ["cls", "signs", "counted", "by", "rest"] (defScope s_m_counting) := ⟨rfl, rfl, rfl, by decide +kernel, rfl, by decide +kernel, by decide +kernel⟩
theorem fn_counting {fI : Addr} (T : Bs mg) (G : Gs mg) (Z : Rx K mg C) (F : L2.Fun K "counting" "Rule.counting" s_m_counting f fd) (C_p_req : CalP P w K mg base CX0 2 "require_signs" spReq) (C_p_int : CalP P w K mg base CX0 1 "is_integer" spInt) (MK : L2.Mk K C fI) (F_init : FnR P w K mg base CX0 4 fI (spInit C)) : FnOk P w K mg base CX0 6 f fd ["cls", "signs", "counted", "by", "rest"] (spCount C) := by
  refine F.ok sc_m_counting (fun vs H Q E h => ?_) (fun cdv A outer s H vs Q E hr h => ?_)
  · obtain ⟨sg, cd, m, r, rfl, _⟩ := h
    rfl
  · obtain ⟨sg, cd, m, r, rfl, sgo, sub, m1, m2, hrm, k⟩ := h
    refine ⟨_, pss_cons (ps_expr (pcP C_p_req hr (pa_cons (pv 1) pa_nil)))
      (pss_cons (ps_if (PW.pt (pw_or (pt_not (pt_val (pb call_isi T.z_isinstance (pa_cons (pv 2) (pa_cons (pe_bltn (v := .ty "str") (u := .type "str") rfl T.z_str (by decide +kernel) rfl) pa_nil))))) (pw_or1 (pt_cmpR op_ne (pv 2) (pe_join pe_str (pe_lc (own := [("sign", 7)]) (te := (tVar 7)) (tt := (tTest (tOp qInS (tVar 7) (tVar 2)))) rfl sc_m_counting.nd (pi_str (pv 1)) (blkOk_by (N := ["cls", "signs", "counted", "by", "rest", "states", "at", "sign"]) (sc := defScope s_m_counting) (by decide +kernel)) (fun _ _ _ _ _ => (pg_name (i := 7) sc_m_counting.nd rfl (Or.inl rfl))) (fun _ _ _ _ _ => (pts_one (pt_cmpR op_in_sign (pv 7) (pv 2) (by rfl)))) (fun _ _ _ _ _ => (pv 7)))) (nomark _)))))
        (pss_one ps_never)
        pss_nil)
      (pss_cons (ps_if (PW.pt (pw_or (pt_not (pt_val (pcP C_p_int hr (pa_cons (pv 3) pa_nil)))) (pw_or1 (pt_not (pt_chain op_le op_le pe_int (pv 3) (pe_gint G.g_MAX_STATES))))))
        (pss_one ps_never)
        pss_nil)
      (pss_cons (ps_if (PW.pt (pw_or (pt_not (pt_val (pcP C_p_int hr (pa_cons (pv 4) pa_nil)))) (pw_or1 (pt_not (pt_chain op_le op_lt pe_int (pv 4) (pv 3))))))
        (pss_one ps_never)
        pss_nil)
      (pss_cons (ps_set (i := 5) sc_m_counting.nd rfl (.inl rfl) (pe_lstN pa_nil))
      (pss_cons (ps_for PassesOwn.never rfl (pi_range1 (by rfl) T.z_range (pa_cons (pv 3) pa_nil)) (pg_name (i := 6) sc_m_counting.nd rfl (Or.inr rfl))
        (pss_one (ps_expr (pe_bm PySem.F.plainAttrs_list PySem.F.slot_list_append PySem.F.type_list_append mt_append (pv 5) (pa_cons (pe_tup (pa_cons (pe_dc (own := [("sign", 7)]) (tk := (tVar 7)) (tv := (tIf (tTest (tOp qInS (tVar 7) (tVar 2))) (tOp (rI (fun _ j => 0 < j) fun i j => .int (i % j)) (tOp (rI0 fun i j => .int (i + j)) (tVar 6) (tC (.int 1))) (tVar 3)) (tVar 6))) rfl sc_m_counting.nd (pi_str (pv 1)) (blkOk_by (N := ["cls", "signs", "counted", "by", "rest", "states", "at", "sign"]) (sc := defScope s_m_counting) (by decide +kernel)) (fun _ _ _ _ _ => (pg_name (i := 7) sc_m_counting.nd rfl (Or.inl rfl))) (fun _ _ _ _ _ => pts_nil) (fun _ _ _ _ _ => (pv 7)) (fun _ _ _ _ _ => (pe_ifExp (pt_cmpR op_in_sign (pv 7) (pv 2) (by rfl)) (pe_op op_mod (pe_op op_add (pv 6) pe_int) (pv 3)) (pv 6)))) (pa_cons (pe_cmpR op_eq (pv 6) (pv 4) (nomark _)) pa_nil))) pa_nil)))))
      (pss_one (ps_ret (pe_makeV MK F_init (hr.mono (by decide)) (pv 0) pass0 (pa_cons (pv 1) (pa_cons (pt call_tuple_of T.z_tuple (pa_cons (pv 5) pa_nil)) pa_nil)))))))))), ?_⟩

-- Rule.of_words: NO: method update of dict: heads.update({word[:size + 1]: True for size in range(len(word))})
    have nd := sgo.nodup
    have lsg := sgo.len
    refine ⟨_, rfl, _, rfl, sgo.tok, sgo.ok, fun H1 e1 => ?_⟩
    refine ⟨_, rfl, _, .ty "str", _, _, _, rfl, .ty "str", .base (.str _), kit_ty (by decide +kernel : kitB "str" "str" = some true), _, rfl, iteF ?_⟩
    refine ⟨_, rfl, ⟨_, rfl⟩, _, rfl, _, rfl, fun D hD => ?_⟩
    refine lc_it walk_str (fun n H2 => Same H1 H2 ∧ H2 D = some (.lst (((sg.take n).filter (fun c => decide (c ∈ cd))).map S1))) ?_ ?_ ?_ ?_
    · exact ⟨same_upd (Same.refl H1) hD, upd_same⟩
    · exact fun _ _ _ _ => trivial
    · rintro n y H2 H3 hn ⟨f1, f2⟩ ⟨rfl, c, hc, rfl⟩
      have hc' : sg[n]? = some c := by rw [← Array.getElem?_toList] at hc; exact hc
      refine ⟨rfl, _, rfl, _, rfl, c, SX.S cd, rfl, rfl, _, rfl, ?_⟩
      rw [take_snoc hc', List.filter_append]
      by_cases q : c ∈ cd
      · rw [show decide (c ∈ (SX.S cd).cps.toList) = true from decide_eq_true q]
        refine iteT ⟨_, rfl, _, f2, ?_, same_mut f1 hD, ?_⟩
        · have := List.length_filter_le (fun c => decide (c ∈ cd)) (sg.take n)
          rw [List.length_take] at this
          rw [List.length_map, sizeLine_eq]; omega
        · rw [upd_same, List.map_append, List.filter_cons, decide_eq_true q]; rfl
      · rw [show decide (c ∈ (SX.S cd).cps.toList) = false from decide_eq_false q]
        refine iteF ⟨f1, ?_⟩
        rw [List.filter_cons, decide_eq_false q, f2]
        simp
    rintro H2 ⟨f1, f2⟩
    have e9 : sg.take (SX.S sg).cps.size = sg := List.take_of_length_le (Nat.le_of_eq (len_cps (SX.S sg)).symm)
    rw [e9, filter_sub sub nd] at f2
    have lcd : cd.length ≤ 4 := Nat.le_trans sub.length_le lsg.2
    have hys : (cd.map fun c => (⟨#[c]⟩ : Str)).map V.str = cd.map S1 := by rw [List.map_map]; rfl
    have hj : Txt.join "" (cd.map fun c => (⟨#[c]⟩ : Str)) = SX.S cd := by
      refine cps_inj ?_
      rw [cps_join, List.map_map, cps_S]
      have : ∀ l : List Nat, (l.map (cps ∘ fun c => (⟨#[c]⟩ : Str))).flatten = l := by
        intro l
        induction l with
        | nil => rfl
        | cons c l ih => rw [List.map_cons, List.flatten_cons, ih]; rfl
      exact this cd
    refine ⟨"", D, cd.map fun c => (⟨#[c]⟩ : Str), rfl, rfl, .inl (SqL.of (by rw [hys]; exact f2)), ?_, ?_⟩
    · have : ((cd.map fun c => (⟨#[c]⟩ : Str)).map (·.length)).sum = cd.length := by
        rw [List.map_map]
        have : ∀ l : List Nat, (l.map ((·.length) ∘ fun c => (⟨#[c]⟩ : Str))).sum = l.length := by
          intro l
          induction l with
          | nil => rfl
          | cons c l ih => rw [List.map_cons, List.sum_cons, ih, List.length_cons, Nat.add_comm]; rfl
        exact this cd
      rw [this, List.length_map]
      have : ("" : Str).length = 0 := rfl
      rw [this]; omega
    rw [hj]
    refine ⟨rfl, _, rfl, ?_⟩
    rw [decide_eq_true (rfl : V.str (SX.S cd) = V.str (SX.S cd))]
    refine iteF ?_
    refine ⟨_, rfl, m, rfl, by omega, _, rfl, iteF ?_⟩
    refine ⟨_, rfl, _, _, rfl, rfl, _, rfl, ?_⟩
    rw [decide_eq_true (show (1 : Int) ≤ (m : Nat) by omega)]
    refine iteT ⟨_, _, rfl, rfl, ?_⟩
    refine ⟨_, rfl, ?_⟩
    rw [decide_eq_true (show ((m : Nat) : Int) ≤ 6 by omega)]
    refine iteF ?_
    refine ⟨_, rfl, r, rfl, by omega, _, rfl, iteF ?_⟩
    refine ⟨_, rfl, _, _, rfl, rfl, _, rfl, ?_⟩
    rw [decide_eq_true (show (0 : Int) ≤ (r : Nat) by omega)]
    refine iteT ⟨_, rfl, _, _, rfl, rfl, _, rfl, ?_⟩
    rw [decide_eq_true (show ((r : Nat) : Int) < (m : Nat) by omega)]
    refine iteF ?_
    refine ⟨by show 0 ≤ sizeLine; exact Nat.zero_le _, fun Sl hSl _ => ?_⟩
    have nSl : H Sl = none := (e1.trans f1).free hSl
    have hl : (countSts sg cd m r).length = m := by unfold countSts; rw [List.length_map, List.length_range]
    have e2 := e1.trans f1
    refine ⟨_, rfl, (m : Nat), rfl, by omega, by omega, for_range (fun i σ H3 => ∃ (x6 : Option V) (as : List Addr), σ = [some (.ref C), some (.str (SX.S sg)), some (.str (SX.S cd)), some (.int (m : Nat)), some (.int (r : Nat)), some (.ref Sl), x6, none] ∧ Same H H3 ∧ H3 Sl = some (.lst (as.map V.ref)) ∧ Paired (StAtt H3) as ((countSts sg cd m r).take i)) ?_ ?_ ?_⟩
    · exact ⟨none, [], rfl, same_upd e2 hSl, upd_same, .nil⟩
    · rintro i σ H3 hi ⟨x6, as, rfl, g1, g2, g3⟩
      have hi : i < m := hi
      rw [Int.zero_add]
      have las : as.length ≤ 6 := by
        have := paired_len g3
        rw [List.length_take] at this
        omega
      refine ⟨_, rfl, .inl ⟨rfl, _, SqL.of g2⟩, _, rfl, _, rfl, fun E hE => ?_⟩
      have nE : Sl ≠ E := ne_of_none g2 hE
      refine dc_it walk_str (fun n H4 => Same H3 H4 ∧ H4 E = some (.dK (kRow ((sg.take n).map fun c => (c, if c ∈ cd then (i + 1) % m else i))))) ?_ ?_ ?_ ?_
      · exact ⟨same_upd (Same.refl H3) hE, upd_same⟩
      · exact fun _ _ _ _ => trivial
      · rintro n y H4 H5 hn ⟨h1, h2⟩ ⟨rfl, c, hc, rfl⟩
        have hc' : sg[n]? = some c := by rw [← Array.getElem?_toList] at hc; exact hc
        have fin : ∃ kvs k', S1 c = kV k' ∧ H5 E = some (.dK kvs) ∧ kvs.length < sizeLine ∧ Same H3 (upd H5 E (.dK (putK kvs k' (.int ((if c ∈ cd then (i + 1) % m else i : Nat) : Int))))) ∧ (upd H5 E (.dK (putK kvs k' (.int ((if c ∈ cd then (i + 1) % m else i : Nat) : Int))))) E = some (.dK (kRow ((sg.take (n + 1)).map fun c => (c, if c ∈ cd then (i + 1) % m else i)))) := by
          refine ⟨_, .inr ⟨#[c]⟩, rfl, h2, ?_, same_mut h1 hE, ?_⟩
          · unfold kRow
            rw [List.length_map, List.length_map, List.length_take, sizeLine_eq]; omega
          · rw [upd_same, put_row (sg := sg.take n) ?_ (take_not_mem nd hc'), take_snoc hc']
            · unfold kRow
              rw [List.map_append, List.map_append]; rfl
            · intro kv hkv
              obtain ⟨q, hq, rfl⟩ := List.mem_map.mp hkv
              obtain ⟨c2, hc2, rfl⟩ := List.mem_map.mp hq
              exact ⟨c2, hc2, rfl⟩
        refine ⟨rfl, _, rfl, _, rfl, _, rfl, c, SX.S cd, rfl, rfl, _, rfl, ?_⟩
        by_cases q : c ∈ cd
        · rw [show decide (c ∈ (SX.S cd).cps.toList) = true from decide_eq_true q]
          rw [if_pos q] at fin
          have em : ((i : Nat) + 1 : Int) % (m : Nat) = (((i + 1) % m : Nat) : Int) := rfl
          rw [← em] at fin
          exact iteT ⟨_, rfl, _, _, rfl, rfl, _, rfl, _, _, rfl, rfl, by omega, fin⟩
        · rw [show decide (c ∈ (SX.S cd).cps.toList) = false from decide_eq_false q]
          rw [if_neg q] at fin
          exact iteF ⟨_, rfl, fin⟩
      · rintro H4 ⟨h1, h2⟩
        have e9 : sg.take (SX.S sg).cps.size = sg := List.take_of_length_le (Nat.le_of_eq (len_cps (SX.S sg)).symm)
        rw [e9] at h2
        have hp : (countSts sg cd m r)[i]? = some (sg.map fun c => (c, if c ∈ cd then (i + 1) % m else i), decide (i = r)) := by
          unfold countSts
          rw [List.getElem?_map, List.getElem?_range hi]; rfl
        refine ⟨_, rfl, _, rfl, rfl, by show 2 ≤ sizeLine; decide, fun T2 hT2 => ?_⟩
        have eb : decide (V.int (i : Nat) = V.int (r : Nat)) = decide (i = r) := by
          by_cases q : i = r
          · subst q; simp
          · rw [decide_eq_false q]
            exact decide_eq_false fun z => q (by injection z with z; omega)
        rw [eb]
        have e3 := same_upd (o := .tup [.ref E, .bl (decide (i = r))]) (Same.refl H4) hT2
        have kT2 : (upd H4 T2 (.tup [.ref E, .bl (decide (i = r))])) T2 = some (.tup [.ref E, .bl (decide (i = r))]) := upd_same
        generalize upd H4 T2 (.tup [.ref E, .bl (decide (i = r))]) = H5 at e3 kT2
        have g2' := e3 _ _ (h1 _ _ g2)
        have hle : ∀ b o, (∀ l, o ≠ .lst l) → H5 b = some o → (upd H5 Sl (.lst (as.map V.ref ++ [.ref T2]))) b = some o := fun b o ho hb => by
          rw [upd_ne (fun z => by rw [z, g2'] at hb; cases hb; exact ho _ rfl)]; exact hb
        refine ⟨Sl, _, _, rfl, rfl, g2', by rw [List.length_map, sizeLine_eq]; omega, _, as ++ [T2], rfl, same_mut ((g1.trans h1).trans e3) nSl, by rw [upd_same, List.map_append]; rfl, ?_⟩
        refine paired_take_snoc (L2.Paired.mapP g3 fun a p ⟨b, c1, c2⟩ => ?_) hp ?_
        · exact ⟨b, hle _ _ (by intro l z; cases z) (e3 _ _ (h1 _ _ c1)), hle _ _ (by intro l z; cases z) (e3 _ _ (h1 _ _ c2))⟩
        · exact ⟨E, hle _ _ (by intro l z; cases z) kT2, hle _ _ (by intro l z; cases z) (e3 _ _ h2)⟩
    · rintro σ H3 ⟨x6, as, rfl, g1, g2, g3⟩
      have g3 : Paired (StAtt H3) as ((countSts sg cd m r).take m) := g3
      rw [List.take_of_length_le (by omega)] at g3
      refine ⟨rfl, _, rfl, _, rfl, Sl, _, rfl, .inl ⟨SqL.of g2, fun u hu => ?_⟩⟩
      have e6 := same_upd (o := .tup (as.map V.ref)) (Same.refl H3) hu
      have k6 : (upd H3 u (.tup (as.map V.ref))) u = some (.tup (as.map V.ref)) := upd_same
      generalize upd H3 u (.tup (as.map V.ref)) = H6 at e6 k6
      have s6 : StsT H6 u (countSts sg cd m r) := ⟨as, k6, L2.Paired.mapP g3 fun _ _ h => h.le e6⟩
      have e06 := g1.trans e6
      intro x dx hx hdx hne
      have sm : Same H6 (upd (upd H6 dx (.own x)) x (.ins C dx [])) := fun b o q => by
        rw [upd_ne (ne_of_none q hx), upd_ne (ne_of_none q hdx)]; exact q
      exact ⟨x, dx, u, sg, _, H6, rfl, upd_same, hne, hx, hdx, sm, s6, sgo, countSts_ok m1 m2, fun H' e' ru => ⟨rfl, k x H' (e06.trans e') (e06.free hx) ru⟩⟩
end
end Fs
namespace Fs
open PySem PySem.Spec PyProof.Rows L2 SlX RZ
/-! ### tuples, by != : the items' comparisons in the model at hand -/
section
variable {prog : Program} {w : World}
open PySem.SeqAt in
theorem tuple_neK (l b : Addr) (items items2 : Array Value) (n n2 : Nat) (dd dd2 : Option Addr) (sl sl2 : Array (Option Value)) (e : Nat → Bool) :
    MeetsIn prog w (Builtin.«tuple.__ne__» ⟨[.ref l, .ref b], []⟩)
      (fun A R s => s.heap.get? l = some { cls := .type "tuple", dict := dd, data := .seq items n, slots := sl } ∧ s.heap.get? b = some { cls := .type "tuple", dict := dd2, data := .seq items2 n2, slots := sl2 } ∧
        (∀ j (h1 : j < items.size) (h2 : j < items2.size), EqIn prog w A.in1 s items[j] items2[j] (e j)) ∧
        R (.ok (.ret (.bool (!((List.range (min items.size items2.size)).all e && items.size == items2.size))))) s) :=
  .of_wp fun A R s h => by
    obtain ⟨hp, g, d, tk, os⟩ := s; obtain ⟨hl, hb, he, h⟩ := h
    have f2 := AutoSeq1.sub_tuple_tuple
    have hZ : (items.toList.zip items2.toList).length = min items.size items2.size := by simp
    wp_walk using wpAny_loadPart' hl, wpAny_loadPart' hb, wpAny_forIn_list _ (fun rest b s' => b.1 = none ∧ s' = ⟨hp, g, d, tk, os⟩ ∧ ∃ i, rest = (items.toList.zip items2.toList).drop i ∧
      R (.ok (.ret (.bool (!(((List.range (min items.size items2.size)).drop i).all e && items.size == items2.size))))) ⟨hp, g, d, tk, os⟩) _
    case turn =>
      rintro ⟨y, x⟩ rest b s' ⟨hb', rfl, i, hz, hR⟩
      have hlt : i < (items.toList.zip items2.toList).length := by
        rcases Nat.lt_or_ge i (items.toList.zip items2.toList).length with h' | h'
        · exact h'
        · rw [List.drop_of_length_le h'] at hz; cases hz
      have hm : i < min items.size items2.size := hZ ▸ hlt
      have h1 : i < items.size := Nat.lt_of_lt_of_le hm (Nat.min_le_left _ _)
      have h2 : i < items2.size := Nat.lt_of_lt_of_le hm (Nat.min_le_right _ _)
      rw [List.drop_eq_getElem_cons hlt] at hz
      injection hz with hyx hrest
      have hy : y = items[i] := by have := congrArg Prod.fst hyx; simpa using this
      have hx : x = items2[i] := by have := congrArg Prod.snd hyx; simpa using this
      subst hy hx
      have hd : (List.range (min items.size items2.size)).drop i = i :: (List.range (min items.size items2.size)).drop (i + 1) := by simp [List.drop_eq_getElem_cons, hm]
      rw [hd, List.all_cons] at hR
      refine wpAny_bind (he i h1 h2 _ _ ?_)
      cases hy : e i with
      | true =>
        rw [hy] at hR
        wp_walk
        exact ⟨rfl, rfl, i + 1, hrest, by simpa using hR⟩
      | false =>
        rw [hy] at hR
        wp_walk
        exact ⟨_, rfl, by simpa using hR⟩
    case fin =>
      rintro ⟨b1, b2⟩ s' ⟨hb', rfl, i, hz, hR⟩
      simp only at hb'
      subst hb'
      have hge : min items.size items2.size ≤ i := by
        rcases Nat.lt_or_ge i (items.toList.zip items2.toList).length with h' | h'
        · rw [List.drop_eq_getElem_cons h'] at hz; cases hz
        · exact hZ ▸ h'
      rw [List.drop_of_length_le (by simpa using hge)] at hR
      wp_walk
      exact ⟨_, rfl, by simpa [Builtin.Tuple.tupleCompareSizes, bne] using hR⟩
    case h =>
      exact ⟨rfl, rfl, 0, rfl, by simpa using h⟩
end
/-! ### rows compared -/
theorem all_range_eq {α : Type} [DecidableEq α] {l1 l2 : List α} (h : l1.length = l2.length) {e : Nat → Bool} (he : ∀ j, j < l1.length → e j = decide (l1[j]? = l2[j]?)) : (List.range l1.length).all e = decide (l1 = l2) := by
  by_cases c : l1 = l2
  · rw [decide_eq_true c, List.all_eq_true]
    intro j hj
    rw [he j (List.mem_range.mp hj)]
    exact decide_eq_true (by rw [c])
  · rw [decide_eq_false c, Bool.eq_false_iff]
    intro q
    rw [List.all_eq_true] at q
    refine c (List.ext_getElem? fun j => ?_)
    by_cases hj : j < l1.length
    · have := q j (List.mem_range.mpr hj)
      rw [he j hj] at this
      exact of_decide_eq_true this
    · rw [List.getElem?_eq_none (by omega), List.getElem?_eq_none (by omega)]
theorem lk_isSome {r : Row} {c : Nat} : (lk r c).isSome = true ↔ c ∈ r.map (·.1) := by
  constructor
  · intro h
    obtain ⟨n, hn⟩ := Option.isSome_iff_exists.mp h
    exact List.mem_map.mpr ⟨_, lk_mem hn, rfl⟩
  · intro h
    cases q : lk r c with
    | some n => rfl
    | none =>
      obtain ⟨p, hp, rfl⟩ := List.mem_map.mp h
      unfold lk at q
      rw [Option.map_eq_none_iff] at q
      have := List.find?_eq_none.mp q p hp
      simp at this
theorem lk_of_mem {r : Row} (nd : (r.map (·.1)).Nodup) {p : Nat × Nat} (h : p ∈ r) : lk r p.1 = some p.2 := by
  cases q : lk r p.1 with
  | none =>
    have : (lk r p.1).isSome = true := lk_isSome.mpr (List.mem_map.mpr ⟨p, h, rfl⟩)
    rw [q] at this; cases this
  | some n =>
    have h2 := lk_mem q
    obtain ⟨i, hi, e1⟩ := List.getElem_of_mem h
    obtain ⟨j, hj, e2⟩ := List.getElem_of_mem h2
    have a1 : (r.map (·.1))[i]? = some p.1 := by rw [List.getElem?_map, List.getElem?_eq_getElem hi, e1]; rfl
    have a2 : (r.map (·.1))[j]? = some p.1 := by rw [List.getElem?_map, List.getElem?_eq_getElem hj, e2]; rfl
    have e := nodup_at nd a1 a2
    subst e
    rw [e1] at e2
    rw [e2]
/-- rows over the same signs are equal if they have the same length and the same entries -/
theorem row_ext {sg : List Nat} (nd : sg.Nodup) {r r' : Row} (h : (r.map (·.1)).Sublist sg) (h' : (r'.map (·.1)).Sublist sg) : (decide (r.length = r'.length) && r.all fun p => decide (lk r' p.1 = some p.2)) = decide (r = r') := by
  by_cases c : r = r'
  · subst c
    rw [decide_eq_true rfl, decide_eq_true rfl, Bool.true_and, List.all_eq_true]
    intro p hp
    exact decide_eq_true (lk_of_mem (h.nodup nd) hp)
  · rw [decide_eq_false c, Bool.eq_false_iff]
    intro q
    rw [Bool.and_eq_true] at q
    have hl : r.length = r'.length := of_decide_eq_true q.1
    have ha := List.all_eq_true.mp q.2
    refine c ?_
    rw [← norm_eq h nd, ← norm_eq h' nd]
    have key : ∀ c ∈ sg, lk r c = lk r' c := by
      intro c _
      cases q1 : lk r c with
      | some n =>
        have := of_decide_eq_true (ha _ (lk_mem q1))
        exact this.symm
      | none =>
        cases q2 : lk r' c with
        | none => rfl
        | some n =>
          exfalso
          have hc' : c ∈ r'.map (·.1) := List.mem_map.mpr ⟨_, lk_mem q2, rfl⟩
          have sub : ∀ x ∈ r.map (·.1), x ∈ (r'.map (·.1)).erase c := by
            intro x hx
            obtain ⟨p, hp, rfl⟩ := List.mem_map.mp hx
            have e := of_decide_eq_true (ha p hp)
            have hne : p.1 ≠ c := fun z => by
              have := lk_of_mem (h.nodup nd) hp
              rw [z, q1] at this; cases this
            exact (List.mem_erase_of_ne hne).mpr (List.mem_map.mpr ⟨_, lk_mem e, rfl⟩)
          have l1 := nodup_len (h.nodup nd) sub
          have l2 := List.length_erase_of_mem hc'
          have l3 : 0 < (r'.map (·.1)).length := List.length_pos_of_mem hc'
          rw [List.length_map] at l1 l2 l3
          omega
    unfold norm
    have : ∀ l : List Nat, (∀ c ∈ l, c ∈ sg) → (l.filterMap fun c => (lk r c).map fun n => (c, n)) = l.filterMap fun c => (lk r' c).map fun n => (c, n) := by
      intro l
      induction l with
      | nil => intro _; rfl
      | cons a l ih =>
        intro hl
        rw [List.filterMap_cons, List.filterMap_cons, key a (hl a (List.mem_cons_self ..)), ih fun x hx => hl x (List.mem_cons_of_mem _ hx)]
    exact this sg fun c hc => hc
section
variable {X : Cx} {pins : List (Addr × Obj)} {σ : L2.St} {H : Hp} {s : Shared}
/-- how two rows compare -/
theorem row_tree (I : Inv X pins σ H s) {sg : List Nat} (nd : sg.Nodup) {a b : Addr} {r r' : Row} (ha : RowAt H a r) (hb : RowAt H b r') (h : (r.map (·.1)).Sublist sg) (h' : (r'.map (·.1)).Sublist sg) :
    PySem.W.EqTree X.prog X.w s 1 (.ref a) (.ref b) (decide (r = r')) := by
  by_cases e : a = b
  · subst e
    have ha : H a = some (.dK (kRow r)) := ha
    have hb : H a = some (.dK (kRow r')) := hb
    rw [ha] at hb
    have e1 : kRow r = kRow r' := by injection hb with hb; injection hb
    have hr : r = r' := by
      have inj : ∀ {r r' : Row}, kRow r = kRow r' → r = r' := by
        intro r
        induction r with
        | nil => intro r' h; cases r' with
          | nil => rfl
          | cons p r' => cases h
        | cons p r ih =>
          intro r' h
          cases r' with
          | nil => cases h
          | cons p' r' =>
            have h : ((.inr ⟨#[p.1]⟩ : Key), V.int (p.2 : Nat)) :: kRow r = ((.inr ⟨#[p'.1]⟩ : Key), V.int (p'.2 : Nat)) :: kRow r' := h
            injection h with h1 h2
            have h3 : p.1 = p'.1 := by
              have := congrArg Prod.fst h1
              by_cases q : p.1 = p'.1
              · exact q
              · exact (key_ne q this).elim
            have h4 : p.2 = p'.2 := by
              have := congrArg Prod.snd h1
              injection this with this
              omega
            rw [ih h2, show p = p' from Prod.ext h3 h4]
      exact inj e1
    rw [decide_eq_true hr]
    exact .same
  · obtain ⟨_, ya, va, ra, da⟩ := (show ObjOk X.prog X.w H s.heap a (.dK (kRow r)) from I.hok a _ ha)
    obtain ⟨_, yb, vb, rb, db⟩ := (show ObjOk X.prog X.w H s.heap b (.dK (kRow r')) from I.hok b _ hb)
    have t := PySem.W.EqTree.dicts (n := 0) (knd := mixKind X.prog X.w) (prog := X.prog) (w := X.w) (s := s) (e := fun k => match k with | .inr z => decide ((lk r (z.cps.toList.headD 0)).map (fun n : Nat => (n : Int)) = (lk r' (z.cps.toList.headD 0)).map fun n : Nat => (n : Int)) | .inl _ => true) e ya yb da db ?_
    · have fin : (va.length == vb.length && va.all fun p => (valueAt vb p.1).isSome && (match p.1 with | .inr z => decide ((lk r (z.cps.toList.headD 0)).map (fun n : Nat => (n : Int)) = (lk r' (z.cps.toList.headD 0)).map fun n : Nat => (n : Int)) | .inl _ => true)) = decide (r = r') := by
        rw [← row_ext nd h h']
        have l1 : va.length = r.length := by rw [← ra.length]; unfold kRow; rw [List.length_map]
        have l2 : vb.length = r'.length := by rw [← rb.length]; unfold kRow; rw [List.length_map]
        have e1 : (va.length == vb.length) = decide (r.length = r'.length) := by rw [l1, l2]; by_cases c : r.length = r'.length <;> simp [c]
        rw [e1]
        congr 1
        have go : ∀ (rr : Row) (va : List (Key × Value)), KV (kRow rr) va → (∀ p ∈ rr, p ∈ r) → (va.all fun p => (valueAt vb p.1).isSome && (match p.1 with | .inr z => decide ((lk r (z.cps.toList.headD 0)).map (fun n : Nat => (n : Int)) = (lk r' (z.cps.toList.headD 0)).map fun n : Nat => (n : Int)) | .inl _ => true)) = rr.all fun p => decide (lk r' p.1 = some p.2) := by
          intro rr
          induction rr with
          | nil =>
            intro va hkv _
            cases hkv
            rfl
          | cons p rr ih =>
            intro va hkv hsub
            cases hkv with
            | @cons _ u _ us h1 h2 =>
              obtain ⟨k, v⟩ := u
              obtain ⟨hk, hv⟩ := h1
              have hk : (.inr ⟨#[p.1]⟩ : Key) = k := hk
              subst hk
              rw [List.all_cons, List.all_cons, ih us h2 fun q hq => hsub q (List.mem_cons_of_mem _ hq)]
              congr 1
              have e2 := lk_of_mem (h.nodup nd) (hsub p (List.mem_cons_self ..))
              have e3 := rb.val (.inr ⟨#[p.1]⟩)
              rw [valV_row] at e3
              show ((valueAt vb (.inr ⟨#[p.1]⟩)).isSome && decide ((lk r p.1).map (fun n : Nat => (n : Int)) = (lk r' p.1).map fun n : Nat => (n : Int))) = _
              rw [e2]
              cases q : lk r' p.1 with
              | none =>
                rw [q] at e3
                rw [RelO.none_of e3]
                rfl
              | some m =>
                rw [q] at e3
                obtain ⟨y, hy, _⟩ := RelO.some_of (v := .int (m : Nat)) e3
                rw [hy]
                by_cases c : m = p.2
                · subst c; simp
                · have c2 : ¬ p.2 = m := fun z => c z.symm
                  have c3 : ¬ (p.2 : Int) = (m : Int) := by omega
                  simp [c, c2, c3]
        exact go r va ra fun p hp => hp
      rw [fin] at t
      exact t
    · intro k v y hm hy
      have go : ∀ (rr : Row) (va : List (Key × Value)), KV (kRow rr) va → (k, v) ∈ va → ∃ p ∈ rr, (.inr ⟨#[p.1]⟩ : Key) = k ∧ RelV (.int (p.2 : Nat)) v := by
        intro rr
        induction rr with
        | nil =>
          intro va hkv hm
          cases hkv
          cases hm
        | cons p rr ih =>
          intro va hkv hm
          cases hkv with
          | @cons _ u _ us h1 h2 =>
            rcases List.mem_cons.mp hm with e | hm
            · subst e
              exact ⟨p, List.mem_cons_self .., h1.1, h1.2⟩
            · obtain ⟨q, hq, e⟩ := ih us h2 hm
              exact ⟨q, List.mem_cons_of_mem _ hq, e⟩
      obtain ⟨p, hp, hk, hv⟩ := go r va ra hm
      subst hk
      obtain ⟨t1, rfl⟩ := hv
      have e2 := lk_of_mem (h.nodup nd) hp
      have e3 := rb.val (.inr ⟨#[p.1]⟩)
      rw [valV_row] at e3
      cases q : lk r' p.1 with
      | none =>
        rw [q, hy] at e3
        exact e3.elim
      | some m =>
        rw [q, hy] at e3
        obtain ⟨t2, rfl⟩ : ∃ t2, y = .int (m : Nat) t2 := e3
        show PySem.W.EqTree X.prog X.w s 0 _ _ (decide ((lk r p.1).map (fun n : Nat => (n : Int)) = (lk r' p.1).map fun n : Nat => (n : Int)))
        rw [e2, q]
        have e4 : decide ((some p.2).map (fun n : Nat => (n : Int)) = (some m).map fun n : Nat => (n : Int)) = ((p.2 : Int) == (m : Int)) := by
          by_cases c : (p.2 : Int) = (m : Int) <;> simp [c]
        rw [e4]
        exact .leaf fun A _ => SeqAt.EqAt.int_int _ t1 _ t2
end
end Fs
namespace Fs
open PySem PySem.Spec PyProof.Rows L2 SlX RZ
/-! ### lists of rows, lists of bools, tuples of states: == and != -/
def rEqRows : R2 := fun x y H Q => ∃ (a b : Addr) (ds es : List Addr) (r1 r2 : List Row) (sg : List Nat), x = .ref a ∧ y = .ref b ∧ H a = some (.lst (ds.map V.ref)) ∧ H b = some (.lst (es.map V.ref)) ∧ Paired (RowAt H) ds r1 ∧ Paired (RowAt H) es r2 ∧ sg.Nodup ∧
  (∀ r ∈ r1, (r.map (·.1)).Sublist sg) ∧ (∀ r ∈ r2, (r.map (·.1)).Sublist sg) ∧ Q (.bl (decide (r1 = r2))) H
def rEqBls : R2 := fun x y H Q => ∃ (a b : Addr) (g1 g2 : List Bool), x = .ref a ∧ y = .ref b ∧ H a = some (.lst (g1.map V.bl)) ∧ H b = some (.lst (g2.map V.bl)) ∧ Q (.bl (decide (g1 = g2))) H
def StsG (H : Hp) (t : Addr) (st : Sts) : Prop := ∃ as : List Addr, SqT [] H t (as.map V.ref) ∧ Paired (StAtt H) as st
def rEqSts (neg : Bool) : R2 := fun x y H Q => ∃ (a b : Addr) (s1 s2 : Sts) (sg : List Nat), x = .ref a ∧ y = .ref b ∧ StsT H a s1 ∧ StsT H b s2 ∧ sg.Nodup ∧ (∀ p ∈ s1, (p.1.map (·.1)).Sublist sg) ∧ (∀ p ∈ s2, (p.1.map (·.1)).Sublist sg) ∧ Q (.bl (if neg then !decide (s1 = s2) else decide (s1 = s2))) H
theorem map_int_inj {o1 o2 : Option Nat} (h : (o1.map fun n => V.int (n : Nat)) = o2.map fun n => V.int (n : Nat)) : o1 = o2 := by
  cases o1 with
  | none =>
    cases o2 with
    | none => rfl
    | some m => cases h
  | some n =>
    cases o2 with
    | none => cases h
    | some m =>
      have h : some (V.int (n : Nat)) = some (V.int (m : Nat)) := h
      injection h with h
      injection h with h
      rw [show n = m by omega]
theorem refs_of : ∀ {as : List Addr} {us : List Value}, Vals (as.map V.ref) us → us = as.map Value.ref
  | [], _, h => by cases h; rfl
  | a :: as, _, h => by
    cases h with
    | cons r t =>
      have : _ = Value.ref a := r
      rw [List.map_cons, ← refs_of t, this]
theorem bls_of : ∀ {gs : List Bool} {us : List Value}, Vals (gs.map V.bl) us → us = gs.map Value.bool
  | [], _, h => by cases h; rfl
  | g :: gs, _, h => by
    cases h with
    | cons r t =>
      have : _ = Value.bool g := r
      rw [List.map_cons, ← bls_of t, this]
section
variable {X : Cx} {pins : List (Addr × Obj)} {σ : L2.St} {H : Hp} {s : Shared}
theorem state_tree (I : Inv X pins σ H s) {sg : List Nat} (nd : sg.Nodup) {a b : Addr} {p q : Row × Bool} (ha : StAtt H a p) (hb : StAtt H b q) (h : (p.1.map (·.1)).Sublist sg) (h' : (q.1.map (·.1)).Sublist sg) :
    PySem.W.EqTree X.prog X.w s 2 (.ref a) (.ref b) (decide (p = q)) := by
  obtain ⟨d, a1, a2⟩ := ha
  obtain ⟨d', b1, b2⟩ := hb
  obtain ⟨_, ia, ra, oa, oa1, oa2, na, oa3⟩ := (show ObjOk X.prog X.w H s.heap a (.tup [.ref d, .bl p.2]) from I.hok a _ a1)
  obtain ⟨_, ib, rb, ob, ob1, ob2, nb, ob3⟩ := (show ObjOk X.prog X.w H s.heap b (.tup [.ref d', .bl q.2]) from I.hok b _ b1)
  obtain ⟨u1, u2, rfl, r1, r2⟩ := vals2 ra
  obtain ⟨v1, v2, rfl, r3, r4⟩ := vals2 rb
  obtain rfl : u1 = Value.ref d := r1
  obtain rfl : u2 = Value.bool p.2 := r2
  obtain rfl : v1 = Value.ref d' := r3
  obtain rfl : v2 = Value.bool q.2 := r4
  by_cases e : a = b
  · subst e
    rw [oa1] at ob1
    cases ob1
    rw [oa3] at ob3
    have e1 : d = d' ∧ p.2 = q.2 := by
      rw [a1] at b1
      injection b1 with b1
      injection b1 with b1
      injection b1 with b1 b2
      injection b2 with b2 _
      injection b1 with b1
      injection b2 with b2
      exact ⟨b1, b2⟩
    obtain ⟨e1, e2⟩ := e1
    subst e1
    have t := row_tree I nd a2 b2 h h'
    have hpq : p = q := by
      have ha : H d = some (.dK (kRow p.1)) := a2
      have hb : H d = some (.dK (kRow q.1)) := b2
      rw [ha] at hb
      have e3 : kRow p.1 = kRow q.1 := by injection hb with hb; injection hb
      refine Prod.ext ?_ e2
      rw [← norm_eq h nd, ← norm_eq h' nd]
      have key : ∀ c, lk p.1 c = lk q.1 c := fun c => by
        have h1 := valV_row c p.1
        have h2 := valV_row c q.1
        rw [e3, h2] at h1
        exact (map_int_inj h1).symm
      unfold norm
      congr 1
      funext c
      rw [key c]
    rw [decide_eq_true hpq]
    exact .same
  · have t := PySem.W.EqTree.tuples (prog := X.prog) (w := X.w) (s := s) (n := 1) (e := fun j => if j = 0 then decide (p.1 = q.1) else (p.2 == q.2)) e ⟨oa, oa1, oa2, na, oa3⟩ ⟨ob, ob1, ob2, nb, ob3⟩ ?_
    · have fin : ((List.range (min (#[Value.ref d, .bool p.2] : Array Value).size (#[Value.ref d', .bool q.2] : Array Value).size)).all (fun j => if j = 0 then decide (p.1 = q.1) else (p.2 == q.2)) && (#[Value.ref d, .bool p.2] : Array Value).size == (#[Value.ref d', .bool q.2] : Array Value).size) = decide (p = q) := by
        show ((List.range 2).all (fun j => if j = 0 then decide (p.1 = q.1) else (p.2 == q.2)) && true) = _
        have : List.range 2 = [0, 1] := rfl
        rw [this]
        obtain ⟨p1, p2⟩ := p
        obtain ⟨q1, q2⟩ := q
        by_cases c1 : p1 = q1 <;> by_cases c2 : p2 = q2 <;> simp [c1, c2]
      rw [← fin]
      exact t
    · intro j h1 h2
      have hj : j < 2 := h1
      match j, hj with
      | 0, _ => exact row_tree I nd a2 b2 h h'
      | 1, _ => exact .leaf fun A _ => SeqAt.EqAt.bool_bool _ _
end
section
variable {X : Cx}
theorem op_eqRows (hu : X.A.units + 64 < cLine) : OpR X (compareOp .Eq) rEqRows := by
  intro pins s σ H x y v u Q I rx ry h
  obtain ⟨a, b, ds, es, r1, r2, sg, rfl, rfl, h1, h2, p1, p2, nd, b1, b2, q⟩ := h
  obtain rfl : v = Value.ref a := rx
  obtain rfl : u = Value.ref b := ry
  obtain ⟨_, ia, na, ra, oa⟩ := (show ObjOk X.prog X.w H s.heap a (.lst (ds.map V.ref)) from I.hok a _ h1)
  obtain ⟨_, ib, nb, rb, ob⟩ := (show ObjOk X.prog X.w H s.heap b (.lst (es.map V.ref)) from I.hok b _ h2)
  obtain rfl := refs_of ra
  obtain rfl := refs_of rb
  have l1 := paired_len p1
  have l2 := paired_len p2
  by_cases hl : r1.length = r2.length
  · refine PySem.W.eq_listsT (n := 1) (e := fun j => decide (r1[j]? = r2[j]?)) ⟨_, oa, rfl, _, rfl⟩ ⟨_, ob, rfl, _, rfl⟩ (by simp; omega) (fun j j1 j2 => ?_) (by omega) ⟨.bl _, H, I, rfl, ?_⟩
    · have j1' : j < ds.length := by simpa using j1
      have j2' : j < es.length := by simpa using j2
      obtain ⟨r, hr, ar⟩ := paired_get p1 (List.getElem?_eq_getElem j1')
      obtain ⟨r', hr', ar'⟩ := paired_get p2 (List.getElem?_eq_getElem j2')
      have e1 : decide (r1[j]? = r2[j]?) = decide (r = r') := by
        rw [hr, hr']
        by_cases c : r = r' <;> simp [c]
      rw [e1]
      have := row_tree I nd ar ar' (b1 r (List.mem_of_getElem? hr)) (b2 r' (List.mem_of_getElem? hr'))
      simpa using this
    · have e2 : (ds.map Value.ref).toArray.size = r1.length := by simp; omega
      rw [e2, all_range_eq hl fun _ _ => rfl]
      exact q
  · have e3 : decide (r1 = r2) = false := decide_eq_false fun z => hl (by rw [z])
    rw [e3] at q
    exact SeqAt.RcAt.lists_lengths (l := a) (b := b) ⟨_, oa, rfl, _, rfl⟩ ⟨_, ob, rfl, _, rfl⟩ (by simp; omega) (by omega) X.prog X.w _ _ ⟨.bl false, H, I, rfl, q⟩
theorem op_eqBls (hu : X.A.units + 64 < cLine) : OpR X (compareOp .Eq) rEqBls := by
  intro pins s σ H x y v u Q I rx ry h
  obtain ⟨a, b, g1, g2, rfl, rfl, h1, h2, q⟩ := h
  obtain rfl : v = Value.ref a := rx
  obtain rfl : u = Value.ref b := ry
  obtain ⟨_, ia, na, ra, oa⟩ := (show ObjOk X.prog X.w H s.heap a (.lst (g1.map V.bl)) from I.hok a _ h1)
  obtain ⟨_, ib, nb, rb, ob⟩ := (show ObjOk X.prog X.w H s.heap b (.lst (g2.map V.bl)) from I.hok b _ h2)
  obtain rfl := bls_of ra
  obtain rfl := bls_of rb
  by_cases hl : g1.length = g2.length
  · refine PySem.W.eq_listsT (n := 1) (e := fun j => decide (g1[j]? = g2[j]?)) ⟨_, oa, rfl, _, rfl⟩ ⟨_, ob, rfl, _, rfl⟩ (by simp; omega) (fun j j1 j2 => ?_) (by omega) ⟨.bl _, H, I, rfl, ?_⟩
    · have j1' : j < g1.length := by simpa using j1
      have j2' : j < g2.length := by simpa using j2
      have e1 : decide (g1[j]? = g2[j]?) = (g1[j] == g2[j]) := by
        rw [List.getElem?_eq_getElem j1', List.getElem?_eq_getElem j2']
        by_cases c : g1[j] = g2[j] <;> simp [c]
      rw [e1]
      have : PySem.W.EqTree X.prog X.w s 1 (.bool g1[j]) (.bool g2[j]) (g1[j] == g2[j]) := .leaf fun A _ => SeqAt.EqAt.bool_bool _ _
      simpa using this
    · have e2 : (g1.map Value.bool).toArray.size = g1.length := by simp
      rw [e2, all_range_eq hl fun _ _ => rfl]
      exact q
  · have e3 : decide (g1 = g2) = false := decide_eq_false fun z => hl (by rw [z])
    rw [e3] at q
    exact SeqAt.RcAt.lists_lengths (l := a) (b := b) ⟨_, oa, rfl, _, rfl⟩ ⟨_, ob, rfl, _, rfl⟩ (by simp; omega) (by omega) X.prog X.w _ _ ⟨.bl false, H, I, rfl, q⟩
theorem sts_all {s1 s2 : Sts} {e : Nat → Bool} (he : ∀ j, j < s1.length → j < s2.length → e j = decide (s1[j]? = s2[j]?)) : ((List.range (min s1.length s2.length)).all e && s1.length == s2.length) = decide (s1 = s2) := by
  by_cases hl : s1.length = s2.length
  · have e1 : min s1.length s2.length = s1.length := by omega
    rw [e1, all_range_eq hl fun j hj => he j hj (by omega)]
    simp [hl]
  · rw [decide_eq_false fun z => hl (by rw [z])]
    simp [hl]
theorem op_eqSts (hu : X.A.units + 64 < cLine) : OpR X (compareOp .Eq) (rEqSts false) := by
  intro pins s σ H x y v u Q I rx ry h
  obtain ⟨a, b, s1, s2, sg, rfl, rfl, ⟨as, h1, p1⟩, ⟨bs, h2, p2⟩, nd, b1, b2, q⟩ := h
  obtain rfl : v = Value.ref a := rx
  obtain rfl : u = Value.ref b := ry
  obtain ⟨_, ia, ra, oa, oa1, oa2, na, oa3⟩ := (show ObjOk X.prog X.w H s.heap a (.tup (as.map V.ref)) from I.hok a _ h1)
  obtain ⟨_, ib, rb, ob, ob1, ob2, nb, ob3⟩ := (show ObjOk X.prog X.w H s.heap b (.tup (bs.map V.ref)) from I.hok b _ h2)
  obtain rfl := refs_of ra
  obtain rfl := refs_of rb
  have l1 := paired_len p1
  have l2 := paired_len p2
  refine PySem.W.eq_tuplesT (n := 2) (e := fun j => decide (s1[j]? = s2[j]?)) ⟨_, oa1, oa2, _, oa3⟩ ⟨_, ob1, ob2, _, ob3⟩ (fun j j1 j2 => ?_) (by omega) ⟨.bl _, H, I, rfl, ?_⟩
  · have j1' : j < as.length := by simpa using j1
    have j2' : j < bs.length := by simpa using j2
    obtain ⟨r, hr, ar⟩ := paired_get p1 (List.getElem?_eq_getElem j1')
    obtain ⟨r', hr', ar'⟩ := paired_get p2 (List.getElem?_eq_getElem j2')
    have e1 : decide (s1[j]? = s2[j]?) = decide (r = r') := by
      rw [hr, hr']
      by_cases c : r = r' <;> simp [c]
    rw [e1]
    have := state_tree I nd ar ar' (b1 r (List.mem_of_getElem? hr)) (b2 r' (List.mem_of_getElem? hr'))
    simpa using this
  · have e2 : (as.map Value.ref).toArray.size = s1.length := by simp; omega
    have e3 : (bs.map Value.ref).toArray.size = s2.length := by simp; omega
    rw [e2, e3, sts_all fun _ _ _ => rfl]
    exact q
theorem op_neSts (hu : X.A.units + 64 < cLine) : OpR X (compareOp .NotEq) (rEqSts true) := by
  intro pins s σ H x y v u Q I rx ry h
  obtain ⟨a, b, s1, s2, sg, rfl, rfl, ⟨as, h1, p1⟩, ⟨bs, h2, p2⟩, nd, b1, b2, q⟩ := h
  obtain rfl : v = Value.ref a := rx
  obtain rfl : u = Value.ref b := ry
  obtain ⟨_, ia, ra, oa, oa1, oa2, na, oa3⟩ := (show ObjOk X.prog X.w H s.heap a (.tup (as.map V.ref)) from I.hok a _ h1)
  obtain ⟨_, ib, rb, ob, ob1, ob2, nb, ob3⟩ := (show ObjOk X.prog X.w H s.heap b (.tup (bs.map V.ref)) from I.hok b _ h2)
  obtain rfl := refs_of ra
  obtain rfl := refs_of rb
  have l1 := paired_len p1
  have l2 := paired_len p2
  have e2 : (as.map Value.ref).toArray.size = s1.length := by simp; omega
  have e3 : (bs.map Value.ref).toArray.size = s2.length := by simp; omega
  have fin : EP X pins σ Q (.bool (!((List.range (min (as.map Value.ref).toArray.size (bs.map Value.ref).toArray.size)).all (fun j => decide (s1[j]? = s2[j]?)) && (as.map Value.ref).toArray.size == (bs.map Value.ref).toArray.size))) s := by
    rw [e2, e3, sts_all fun _ _ _ => rfl]
    exact ⟨.bl _, H, I, rfl, q⟩
  obtain ⟨oc, od, dat, sl⟩ := oa
  obtain ⟨oc2, od2, dat2, sl2⟩ := ob
  simp only at oa2 oa3 ob2 ob3
  subst oa2 oa3 ob2 ob3
  refine wpAny_richCompare_same_room (T := "tuple") (op := .NotEq) ⟨_, oa1, rfl⟩ ⟨_, ob1, rfl⟩ PySem.F.slot_tuple_ne (call_meetsIn PySem.F.slot_tuple_ne ⟨_, oa1, rfl⟩ PySem.F.entry_tuple_ne (PySem.F.args_tuple_ne_2 _ _) (tuple_neK a b _ _ na nb od od2 sl sl2 fun j => decide (s1[j]? = s2[j]?))
    ⟨oa1, ob1, fun j j1 j2 => ?_, (fun x => nomatch x), fin⟩) (by omega)
  have j1' : j < as.length := by simpa using j1
  have j2' : j < bs.length := by simpa using j2
  obtain ⟨r, hr, ar⟩ := paired_get p1 (List.getElem?_eq_getElem j1')
  obtain ⟨r', hr', ar'⟩ := paired_get p2 (List.getElem?_eq_getElem j2')
  have e1 : decide (s1[j]? = s2[j]?) = decide (r = r') := by
    rw [hr, hr']
    by_cases c : r = r' <;> simp [c]
  show SeqAt.EqIn X.prog X.w _ s _ _ (decide (s1[j]? = s2[j]?))
  rw [e1]
  have := (state_tree I nd ar ar' (b1 r (List.mem_of_getElem? hr)) (b2 r' (List.mem_of_getElem? hr'))).at X.A.in1 (by show X.A.units + 1 + 2 < cLine; omega)
  simpa using this
end
end Fs
namespace Fs
open PySem PySem.Spec PyProof.Rows L2 SlX RZ
section
variable {P : Program} {w : World} {K : PySem.W.Frag} {mg : Str → Option Value} {base : Heap} {C TM : Addr} {f : Addr} {fd : FuncData}
def spEq (C : Addr) : Sp := fun vs H Q _ => ∃ (x : Addr) (y : V) (sg : List Nat) (s1 : Sts), vs = [.ref x, y] ∧ RuAt H x C sg s1 ∧ SgOk sg ∧ StsOk sg s1 ∧
  ((∃ (b : Addr) (sg2 : List Nat) (s2 : Sts), y = .ref b ∧ RuAt H b C sg2 s2 ∧ StsOk sg2 s2 ∧ Q (.bl (decide (sg = sg2) && decide (s1 = s2))) H) ∨ (∃ (t : Addr) (xs : List V), y = .ref t ∧ H t = some (.tup xs) ∧ Q (.bl false) H))
abbrev s_m_eq : Stmt := inClass (top 27) 12
theorem sc_m_eq : FnScope ["self", "other"] ["self", "other"] (defScope s_m_eq) := ⟨rfl, rfl, rfl, by decide +kernel, rfl, by decide +kernel, by decide +kernel⟩
theorem sts_split {s1 s2 : Sts} : (decide (s1.map (·.1) = s2.map (·.1)) && decide (s1.map (·.2) = s2.map (·.2))) = decide (s1 = s2) := by
  by_cases c : s1 = s2
  · subst c; simp
  · rw [decide_eq_false c, Bool.eq_false_iff]
    intro q
    rw [Bool.and_eq_true] at q
    have h1 : s1.map (·.1) = s2.map (·.1) := of_decide_eq_true q.1
    have h2 : s1.map (·.2) = s2.map (·.2) := of_decide_eq_true q.2
    refine c ?_
    have go : ∀ (a b : Sts), a.map (·.1) = b.map (·.1) → a.map (·.2) = b.map (·.2) → a = b := by
      intro a
      induction a with
      | nil => intro b h _; cases b with
        | nil => rfl
        | cons y b => cases h
      | cons x a ih =>
        intro b h g
        cases b with
        | nil => cases h
        | cons y b =>
          rw [List.map_cons, List.map_cons] at h g
          injection h with h1 h2
          injection g with g1 g2
          rw [ih b h2 g2, show x = y from Prod.ext h1 g1]
    exact go _ _ h1 h2
theorem paired_rows {H : Hp} : ∀ {ds : List Addr} {st : Sts}, Paired (fun d (p : Row × Bool) => RowAt H d p.1) ds st → Paired (RowAt H) ds (st.map (·.1))
  | _, _, .nil => .nil
  | _, _, .cons a b => .cons a (paired_rows b)
theorem S_inj {a b : List Nat} : SX.S a = SX.S b ↔ a = b := ⟨fun h => by have := congrArg cps h; exact this, fun h => by rw [h]⟩
theorem fn_eq (T : Bs mg) (Z : Rx K mg C) (F : L2.Fun K "__eq__" "Rule.__eq__" s_m_eq f fd) : FnOk P w K mg base CX0 1 f fd ["self", "other"] (spEq C) := by
  refine F.ok sc_m_eq (fun vs H Q E h => ?_) (fun cdv A outer s H vs Q E hr h => ?_)
  · obtain ⟨x, y, sg, s1, rfl, _⟩ := h
    rfl
  · obtain ⟨x, y, sg, s1, rfl, ⟨dx, lg, lm, ds, sl, a1, a2, a3⟩, sgo, o1, h⟩ := h
    refine ⟨_, pss_one (ps_ret (pe_and (pb (CallR.or call_isi (call_isiSl (.ref C))) T.z_isinstance (pa_cons (pv 1) (pa_cons (pe_glob (v := .ref C) (u := .ref C) rfl Z.gC rfl) pa_nil))) (pe_and (pe_cmpR op_eq (pe_sl (pv 0)) (pe_sl (pv 1)) (nomark _)) (pe_and (pe_cmpR (op_eqRows hr.units) (pe_sl (pv 0)) (pe_sl (pv 1)) (nomark _)) (pe_one (pe_cmpR (op_eqBls hr.units) (pe_sl (pv 0)) (pe_sl (pv 1)) (nomark _))))))), ?_⟩
    obtain ⟨p0, t0⟩ := Z.t0
    obtain ⟨p1, t1⟩ := Z.t1
    obtain ⟨p2, t2⟩ := Z.t2
    rcases h with ⟨b, sg2, s2, rfl, ⟨dy, lg2, lm2, ds2, sl2, b1, b2, b3⟩, o2, k⟩ | ⟨t, xs, rfl, ht, k⟩
    · refine ⟨_, rfl, .inr ⟨b, C, dy, _, .ref C, true, rfl, rfl, fun _ z => z, sl2, Z.sc, Z.si, Z.kk, _, rfl, iteT ?_⟩⟩
      refine ⟨_, rfl, x, C, dx, p2, _, 2, _, rfl, sl, Z.sc, t2, rfl, _, rfl, b, C, dy, p2, _, 2, _, rfl, sl2, Z.sc, t2, rfl, rfl, _, rfl, ?_⟩
      by_cases c : sg = sg2
      · subst c
        rw [decide_eq_true (rfl : V.str (SX.S sg) = V.str (SX.S sg))]
        refine iteT ?_
        refine ⟨_, rfl, x, C, dx, p1, _, 1, _, rfl, sl, Z.sc, t1, rfl, _, rfl, b, C, dy, p1, _, 1, _, rfl, sl2, Z.sc, t1, rfl, ?_⟩
        refine ⟨lm, lm2, ds, ds2, s1.map (·.1), s2.map (·.1), sg, rfl, rfl, a2, b2, paired_rows a3, paired_rows b3, sgo.nodup, fun r hr => ?_, fun r hr => ?_, _, rfl, ?_⟩
        · obtain ⟨p, hp, rfl⟩ := List.mem_map.mp hr
          exact (o1.rows p hp).sub
        · obtain ⟨p, hp, rfl⟩ := List.mem_map.mp hr
          exact (o2.rows p hp).sub
        rw [decide_eq_true (rfl : sg = sg), Bool.true_and, ← sts_split] at k
        by_cases c1 : s1.map (·.1) = s2.map (·.1)
        · rw [decide_eq_true c1]
          rw [decide_eq_true c1, Bool.true_and] at k
          refine iteT ?_
          refine ⟨_, rfl, x, C, dx, p0, _, 0, _, rfl, sl, Z.sc, t0, rfl, _, rfl, b, C, dy, p0, _, 0, _, rfl, sl2, Z.sc, t0, rfl, ?_⟩
          exact ⟨lg, lg2, s1.map (·.2), s2.map (·.2), rfl, rfl, by rw [List.map_map]; exact a1, by rw [List.map_map]; exact b1, k⟩
        · rw [decide_eq_false c1]
          rw [decide_eq_false c1, Bool.false_and] at k
          exact iteF k
      · rw [decide_eq_false (show ¬ V.str (SX.S sg) = V.str (SX.S sg2) from fun z => c (S_inj.mp (by injection z)))]
        rw [decide_eq_false c, Bool.false_and] at k
        exact iteF k
    · exact ⟨_, rfl, .inl ⟨_, .ref C, _, _, false, rfl, .own C, .base (.tup ht), Z.kt, _, rfl, iteF k⟩⟩
end
end Fs
namespace Fs
open PySem PySem.Spec PyProof.Rows L2 SlX RZ SrtO
/-! ### d.update(other), both of plain keys -/
def rDUpd : V → List V → Hp → VK → Prop := fun x vs H Q => ∃ (a b : Addr) (kvs more : List (Key × V)), x = .ref a ∧ vs = [.ref b] ∧ H a = some (.dK kvs) ∧ Rd H b (.dK more) ∧ a ≠ b ∧ kvs.length + more.length ≤ sizeLine ∧ Q .non (upd H a (.dK (mergeK kvs more)))
theorem mtd_update {X : Cx} : MtR X "dict.update" rDUpd := by
  intro pins s σ H x vs v us Q I rx rv h
  obtain ⟨a, b, kvs, more, ex, ev, e, e2, ne, hz, q⟩ := h
  subst ex
  subst ev
  obtain rfl : v = Value.ref a := rx
  obtain ⟨u, rfl, ru⟩ := rv.one
  obtain rfl : u = Value.ref b := ru
  obtain ⟨z, hd, vs, rel, dd⟩ := dk_of I.hok e
  obtain ⟨z2, hd2, vs2, rel2, dd2⟩ := dk_rd I.hok e2
  refine call_meetsIn PySem.F.slot_dict_update dd.typeIs PySem.F.entry_dict_update (PySem.F.args_dict_update_2 _ _) (meets_dict_update (mixKind X.prog X.w) a b ne hd2) ⟨vs, vs2, dd, dd2, by rw [← rel.length, ← rel2.length]; exact hz, fun h' dd' _ hs => ?_⟩
  have he : ∃ q, h'.get? a = some q := let ⟨q, _, _, hq, _⟩ := dd'; ⟨q, hq⟩
  exact ⟨.non, _, d_write (t' := s.toks) I (by rw [e]; exact True.intro) hs he (dk_new (Nat.le_trans (length_mergeK more kvs) hz) hd (KV.merge rel2 rel) dd'), rfl, q⟩
/-! ### sorted(list of pairs of a number and a text) -/
def tInts (x : List Nat) : List Int := x.map Int.ofNat
def kT (p : Int × List Nat) : List Int := p.1 :: tInts p.2
theorem lex_txt : ∀ (x y : List Nat), HT.lexLt (tInts x) (tInts y) = decide (x < y)
  | [], [] => by rw [decide_eq_false (List.lt_irrefl _)]; rfl
  | [], y :: ys => by rw [decide_eq_true (List.nil_lt_cons y ys)]; rfl
  | x :: xs, [] => by rw [decide_eq_false (List.not_lt_nil _)]; rfl
  | x :: xs, y :: ys => by
    show HT.lexLt (Int.ofNat x :: tInts xs) (Int.ofNat y :: tInts ys) = _
    rw [HT.lexLt_cons, lex_txt xs ys]
    by_cases e : x = y
    · subst e
      rw [if_pos rfl]
      exact decide_eq_decide.mpr (by rw [List.cons_lt_cons_iff]; simp)
    · rw [if_neg (fun q => e (Int.ofNat.inj q))]
      exact decide_eq_decide.mpr (by rw [List.cons_lt_cons_iff]; simp [e])
theorem tInts_inj : ∀ {x y : List Nat}, tInts x = tInts y → x = y
  | [], [], _ => rfl
  | [], _ :: _, h => by cases h
  | _ :: _, [], h => by cases h
  | a :: x, b :: y, h => by
    injection h with h1 h2
    rw [tInts_inj h2, Int.ofNat.inj h1]
theorem kT_inj {p q : Int × List Nat} (h : kT p = kT q) : p = q := by
  injection h with h1 h2
  exact Prod.ext h1 (tInts_inj h2)
theorem lex_total : ∀ (x y : List Int), HT.lexLt x y = false → HT.lexLt y x = false → x = y
  | [], [], _, _ => rfl
  | [], y :: ys, h, _ => by rw [HT.lexLt_nil_cons] at h; cases h
  | x :: xs, [], _, h => by rw [HT.lexLt_nil_cons] at h; cases h
  | x :: xs, y :: ys, h1, h2 => by
    rw [HT.lexLt_cons] at h1 h2
    by_cases e : x = y
    · subst e
      rw [if_pos rfl] at h1 h2
      rw [lex_total xs ys h1 h2]
    · rw [if_neg e] at h1
      rw [if_neg (fun q => e q.symm)] at h2
      have a := of_decide_eq_false h1
      have b := of_decide_eq_false h2
      omega
section
variable {prog : Program} {w : World} {A : Around} {E : Value → Shared → Prop} {s : Shared}
def IsIT (h : Heap) (v : Value) (x : Int) (y : List Nat) : Prop := ∃ a o t u z n, v = .ref a ∧ h.get? a = some o ∧ o.cls = .type "tuple" ∧ o.data = .seq #[.int x t, .str z u] n ∧ z.cps.toList = y
theorem IsIT.keeps {h h' : Heap} {v : Value} {x : Int} {y : List Nat} (p : IsIT h v x y) (k : ∀ b o, h.get? b = some o → o.cls = .type "tuple" → h'.get? b = some o) : IsIT h' v x y := by
  obtain ⟨a, o, t, u, z, n, e, ho, hc, r⟩ := p
  exact ⟨a, o, t, u, z, n, e, k a o ho hc, hc, r⟩
theorem it_firsts {h : Heap} : ∀ {vs : List Value}, (∀ v ∈ vs, ∃ x y, IsIT h v x y) → ∃ fs : List Value, PySem.W.KatTups h vs fs ∧ fs.length = vs.length ∧ ∀ f ∈ fs, ∃ x t, f = Value.int x t
  | [], _ => ⟨[], PySem.W.KatTups.nil, rfl, fun _ hm => by simp at hm⟩
  | v :: vs, hp => by
    obtain ⟨fs, h1, h2, h3⟩ := it_firsts (vs := vs) fun v' hm => hp v' (List.mem_cons_of_mem _ hm)
    obtain ⟨x, y, a, o, t, u, z, n, e, ho, hc, hd, _⟩ := hp v (List.mem_cons_self ..)
    subst e
    refine ⟨.int x t :: fs, PySem.W.KatTups.cons ho hc hd rfl h1, by rw [List.length_cons, List.length_cons, h2], fun f hm => ?_⟩
    rcases List.mem_cons.mp hm with rfl | hm
    · exact ⟨x, t, rfl⟩
    · exact h3 f hm
theorem it_cmp {vs : List Value} {k : Value → Int × List Nat} (hp : ∀ v ∈ vs, IsIT s.heap v (k v).1 (k v).2) : Cmp prog w A s (tuples' true) (fun p => p.1 ∈ vs) (lt2 fun v u => HT.lexLt (kT (k v)) (kT (k u))) := by
  intro p q hm hm'
  have h1 := hp _ hm
  have h2 := hp _ hm'
  show wpAny (model prog w) A (keyLt' (tuples' true) p.1 q.1) (fun r s' => s' = s ∧ r = HT.lexLt (kT (k p.1)) (kT (k q.1))) (fun _ _ => False) s
  unfold kT
  generalize (k p.1).1 = x at h1 ⊢
  generalize (k p.1).2 = y at h1 ⊢
  generalize (k q.1).1 = x' at h2 ⊢
  generalize (k q.1).2 = y' at h2 ⊢
  obtain ⟨a, o, t, u, z, n, e, ho, hc, hd, hz⟩ := h1
  obtain ⟨a', o', t', u', z', n', e', ho', hc', hd', hz'⟩ := h2
  rw [e, e', HT.lexLt_cons, lex_txt]
  subst hz hz'
  refine PySem.W.kat_lt ho hd ho' hd' ?_
  show PySem.W.KatLex prog w A true (decide (2 < 2)) _ [(.int x t, .int x' t'), (.str z u, .str z' u')] 0 s
  refine PySem.W.kat_cons (SeqAt.EqAt.int_int x t x' t' prog w _ _ ?_)
  refine PySem.W.kat_go (fun e1 => ?_) (fun e1 => ?_)
  · have ex : x = x' := by simpa using e1
    rw [if_pos ex]
    refine PySem.W.kat_yes (PySem.W.kat_cons (SeqAt.EqAt.str_str z u z' u' prog w _ _ ?_))
    refine PySem.W.kat_go (fun e2 => ?_) (fun e2 => ?_)
    · have ey : z = z' := by simpa using e2
      subst ey
      exact PySem.W.kat_yes (PySem.W.kat_nil ⟨rfl, (decide_eq_false (List.lt_irrefl _)).symm⟩)
    · exact PySem.W.kat_no (oneLt_any_str ⟨rfl, rfl⟩)
  · have ex : ¬ x = x' := by simpa using e1
    rw [if_neg ex]
    exact PySem.W.kat_no (oneLt_int ⟨rfl, rfl⟩)
theorem it_sortable {a : Addr} {vs : List Value} {k : Value → Int × List Nat} (h0 : 0 < vs.length) (hp : ∀ v ∈ vs, IsIT s.heap v (k v).1 (k v).2) (ha : ∀ o, s.heap.get? a = some o → o.cls ≠ .type "tuple") : SortableO prog w A s a vs fun v u => HT.lexLt (kT (k v)) (kT (k u)) := by
  intro h' keep
  have hp' : ∀ v ∈ vs, IsIT h' v (k v).1 (k v).2 := fun v hm => (hp v hm).keeps fun b o e c => keep b o (fun z => by subst z; exact ha o e c) e
  obtain ⟨fs, h1, h2, h3⟩ := it_firsts fun v hm => ⟨_, _, hp' v hm⟩
  refine ⟨tuples' true, fun Q E hq => ?_, it_cmp hp'⟩
  refine PySem.W.kat_kind (T := .type "int") h1 (by omega) (fun f hm => ?_) (by rfl) ?_
  · obtain ⟨x, t, rfl⟩ := h3 f hm
    exact PySem.W.Looks.now
  · have e : (Value.type "int" != Value.type "tuple") = true := by first | decide +kernel | rfl | decide
    rw [e]
    exact hq
theorem sorted_it {l : Addr} {vs : List Value} {k : Value → Int × List Nat} {Q : Value → Shared → Prop} (hl : s.heap.IsList l vs.toArray) (hz : vs.length ≤ sizeLine) (hp : ∀ v ∈ vs, IsIT s.heap v (k v).1 (k v).2)
    (h : ∀ (h' : Heap) (d : Addr) (out : List Value), Srtd (fun v u => HT.lexLt (kT (k v)) (kT (k u))) out → Stb (fun v u => HT.lexLt (kT (k v)) (kT (k u))) out vs → (∀ b o, s.heap.get? b = some o → h'.get? b = some o) → s.heap.objs.size ≤ d → (∃ n, h'.get? d = some (seqObj "list" out.toArray n)) → Q (.ref d) { s with heap := h' }) :
    wpAny (model prog w) A (call (.builtin "sorted") [.ref l]) Q E s := by
  refine sorted_ord (NtL.swo_lexL fun v => kT (k v)) hl hz (fun h2 h₁ a ha kk => ?_) fun out hs hb => ?_
  · refine it_sortable (s := { s with heap := h₁ }) (by omega) (fun v hm => (hp v hm).keeps fun b o e _ => (kk b o e).2) fun o e => ?_
    have e' : some o = some (seqObj "list" vs.toArray 0) := e.symm.trans ha
    cases e'
    intro c
    exact absurd (Value.type.inj c) (by decide)
  · exact h _ _ out hs hb (fun b o e => sortedAll_old e) (Nat.le_succ _) (sortedAll_at s.heap vs out.toArray)
end
/-! the one sorted list -/
def insT (x : Int × List Nat) : List (Int × List Nat) → List (Int × List Nat)
  | [] => [x]
  | y :: ys => if HT.lexLt (kT y) (kT x) then y :: insT x ys else x :: y :: ys
def srtT (xs : List (Int × List Nat)) : List (Int × List Nat) := xs.foldr insT []
abbrev ltT (p q : Int × List Nat) : Bool := HT.lexLt (kT p) (kT q)
theorem ltT_swo : Swo ltT := NtL.swo_lexL kT
theorem insT_perm (x : Int × List Nat) : ∀ ys, (insT x ys).Perm (x :: ys)
  | [] => List.Perm.refl _
  | y :: ys => by
    unfold insT
    split
    · exact (List.Perm.cons y (insT_perm x ys)).trans (List.Perm.swap x y ys)
    · exact List.Perm.refl _
theorem srtT_perm : ∀ xs, (srtT xs).Perm xs
  | [] => List.Perm.refl _
  | x :: xs => (insT_perm x (srtT xs)).trans (List.Perm.cons x (srtT_perm xs))
theorem insT_srtd (x : Int × List Nat) : ∀ ys, Srtd ltT ys → Srtd ltT (insT x ys)
  | [], _ => List.pairwise_singleton _ _
  | y :: ys, h => by
    unfold insT
    obtain ⟨h1, h2⟩ := List.pairwise_cons.mp h
    split
    · rename_i c
      refine List.pairwise_cons.mpr ⟨fun z hz => ?_, insT_srtd x ys h2⟩
      rcases List.mem_cons.mp ((insT_perm x ys).mem_iff.mp hz) with rfl | hz
      · exact ltT_swo.asym _ _ c
      · exact h1 z hz
    · rename_i c
      have c' : ltT y x = false := by simpa using c
      refine List.pairwise_cons.mpr ⟨fun z hz => ?_, h⟩
      rcases List.mem_cons.mp hz with rfl | hz
      · exact c'
      · exact ltT_swo.tr _ _ _ c' (h1 z hz)
theorem srtT_srtd : ∀ xs, Srtd ltT (srtT xs)
  | [] => List.Pairwise.nil
  | x :: xs => insT_srtd x _ (srtT_srtd xs)
/-- two sorted lists of the same pairs are one list -/
theorem srtd_uniq : ∀ {l m : List (Int × List Nat)}, Srtd ltT l → Srtd ltT m → l.Perm m → l = m
  | [], m, _, _, p => (List.Perm.eq_nil p.symm).symm
  | x :: l, [], _, _, p => absurd p.length_eq (by simp)
  | x :: l, y :: m, h1, h2, p => by
    obtain ⟨a1, a2⟩ := List.pairwise_cons.mp h1
    obtain ⟨b1, b2⟩ := List.pairwise_cons.mp h2
    have e1 : ltT x y = false := by
      rcases List.mem_cons.mp (p.mem_iff.mp (List.mem_cons_self (a := x) (l := l))) with e | hx
      · rw [e]; exact ltT_swo.refl y
      · exact b1 x hx
    have e2 : ltT y x = false := by
      rcases List.mem_cons.mp (p.mem_iff.mpr (List.mem_cons_self (a := y) (l := m))) with e | hy
      · rw [e]; exact ltT_swo.refl x
      · exact a1 y hy
    obtain rfl : x = y := kT_inj (lex_total _ _ e1 e2)
    rw [srtd_uniq a2 b2 p.cons_inv]
theorem srtT_of {l m : List (Int × List Nat)} (h : Srtd ltT l) (p : l.Perm m) : l = srtT m := srtd_uniq h (srtT_srtd m) (p.trans (srtT_perm m).symm)
theorem srtT_congr {l m : List (Int × List Nat)} (p : l.Perm m) : srtT l = srtT m := srtT_of (srtT_srtd l) ((srtT_perm l).trans p)
abbrev itV (p : Int × List Nat) : List V := [.int p.1, .str (SX.S p.2)]
/-- sorted(xs), xs a list of pairs of a number and a text: a new list of them, in order -/
def rSortedIT (K : PySem.W.Frag) : List V → Hp → VK → Prop := fun vs H Q => ∃ (a : Addr) (xs : List V) (ps : List (Int × List Nat)), vs = [V.ref a] ∧ SqL K H a xs ∧ Paired (fun x p => ∃ t, x = V.ref t ∧ H t = some (.tup (itV p))) xs ps ∧
  ∀ ys p, Paired (fun x p => ∃ t, x = V.ref t ∧ H t = some (.tup (itV p))) ys (srtT ps) → H p = none → Q (.ref p) (upd H p (.lst ys))
theorem paired_map {α β : Type} {R : α → β → Prop} {f : α → β} : ∀ {l : List α}, (∀ x ∈ l, R x (f x)) → Paired R l (l.map f)
  | [], _ => .nil
  | x :: l, h => .cons (h x (List.mem_cons_self ..)) (paired_map fun y hy => h y (List.mem_cons_of_mem _ hy))
theorem paired_eqmap {α β : Type} {R : α → β → Prop} {f : α → β} (hu : ∀ x p, R x p → f x = p) : ∀ {l : List α} {m : List β}, Paired R l m → l.map f = m
  | _, _, .nil => rfl
  | _, _, .cons a b => by rw [List.map_cons, hu _ _ a, paired_eqmap hu b]
theorem paired_left {α β : Type} {R : α → β → Prop} : ∀ {l : List α} {m : List β}, Paired R l m → ∀ x ∈ l, ∃ y ∈ m, R x y
  | _, _, .nil, x, h => nomatch h
  | _, _, .cons a b, x, h => by
    rcases List.mem_cons.mp h with rfl | h
    · exact ⟨_, List.mem_cons_self .., a⟩
    · obtain ⟨y, hy, r⟩ := paired_left b x h
      exact ⟨y, List.mem_cons_of_mem _ hy, r⟩
open Classical in
noncomputable def itOf (H : Hp) (x : V) : Int × List Nat := if h : ∃ p t, x = V.ref t ∧ H t = some (.tup (itV p)) then h.choose else (0, [])
theorem itOf_eq {H : Hp} {x : V} {p : Int × List Nat} (h : ∃ t, x = V.ref t ∧ H t = some (.tup (itV p))) : itOf H x = p := by
  have hh : ∃ p t, x = V.ref t ∧ H t = some (.tup (itV p)) := ⟨p, h⟩
  unfold itOf
  rw [dif_pos hh]
  obtain ⟨t, e, ht⟩ := hh.choose_spec
  obtain ⟨t', e', ht'⟩ := h
  cases e.symm.trans e'
  have e2 := ht.symm.trans ht'
  generalize hh.choose = q at e2
  injection e2 with e2
  injection e2 with e2
  injection e2 with e3 e4
  injection e3 with e3
  injection e4 with e4
  injection e4 with e4
  exact Prod.ext e3 (by have := congrArg cps e4; exact this)
section
variable {X : Cx}
theorem cr_sortedIT : CallR X (.builtin "sorted") (rSortedIT X.K) := by
  intro pins s σ H vs us Q I r h
  obtain ⟨a, xs, ps, rfl, hs, hx, q⟩ := h
  obtain ⟨its, rv, hl, hz⟩ := I.list hs
  obtain ⟨u, rfl, ru⟩ := vals1 r
  obtain rfl : u = Value.ref a := ru
  have hx2 : ∀ x ∈ xs, ∃ t, x = V.ref t ∧ H t = some (.tup (itV (itOf H x))) := fun x m => by
    obtain ⟨p, _, t, e, ht⟩ := paired_left hx x m
    exact ⟨t, e, by rw [itOf_eq ⟨t, e, ht⟩]; exact ht⟩
  obtain ⟨e1, e2⟩ := refs_back rv fun x m => by
    obtain ⟨t, e, _⟩ := hx2 x m
    exact ⟨t, e⟩
  refine sorted_it (k := fun u => itOf H (backV u)) hl.isList (by rw [← rv.length]; exact hz) (fun v hv => ?_) fun h' d out h1 h2 kp hd hn => ?_
  · obtain ⟨t, rfl⟩ := e2 v hv
    have hm : V.ref t ∈ xs := by rw [e1]; exact List.mem_map.mpr ⟨_, hv, rfl⟩
    obtain ⟨t', e, ht⟩ := hx2 _ hm
    cases e
    obtain ⟨_, its2, r2, o, ho, hc, n, hd⟩ := I.hok _ _ ht
    obtain ⟨u1, u2, rfl, ri, rj⟩ := vals2 r2
    obtain ⟨t1, rfl⟩ := ri
    obtain ⟨t2, rfl⟩ := rj
    exact ⟨t, o, t1, t2, _, n, rfl, ho, hc, hd, rfl⟩
  · have h3 : ∀ u ∈ out, ∃ a, u = Value.ref a := fun u hu => e2 u (h2.perm.mem_iff.mp hu)
    obtain ⟨n, hn⟩ := hn
    have pm : (out.map backV).Perm xs := by rw [e1]; exact h2.perm.map backV
    refine ⟨.ref d, upd H d (.lst (out.map backV)), I.laid (t' := s.toks) kp hd ⟨?_, out, n, vals_back h3, hn⟩, rfl, q _ d ?_ (I.hok.fresh hd)⟩
    · rw [pm.length_eq]
      exact hz
    · have hps : xs.map (itOf H) = ps := paired_eqmap (fun x p h => itOf_eq h) hx
      have es : (out.map backV).map (itOf H) = srtT ps := by
        refine srtT_of ?_ (by rw [← hps]; exact pm.map _)
        rw [List.map_map]
        exact List.pairwise_map.mpr h1
      rw [← es]
      exact paired_map fun x hx' => hx2 x (pm.mem_iff.mp hx')
end
end Fs
namespace Fs
open PySem PySem.Spec PyProof.Rows L2 SlX RZ SrtO
/-! ### rules of words -/
abbrev Wd := List Nat
def prefs (w : Wd) : List Wd := (List.range w.length).map fun i => w.take (i + 1)
def hdStep (acc : List Wd) (w : Wd) : List Wd := addAll acc (addAll [] (prefs w))
def hdsOf (ws : List Wd) : List Wd := ws.foldl hdStep [[]]
def lenT (h : Wd) : Int × Wd := ((h.length : Nat), h)
def sortW (hs : List Wd) : List Wd := (srtT (hs.map lenT)).map (·.2)
def rowsOf (ws : List Wd) : List Wd := sortW (hdsOf ws)
def rowMv (sg : List Nat) (rows : List Wd) (h : Wd) : Row := sg.filterMap fun c => if h ++ [c] ∈ rows then some (c, ixOf rows (h ++ [c])) else none
def wordSts (sg : List Nat) (ws : List Wd) : Sts := (rowsOf ws).map fun h => (rowMv sg (rowsOf ws) h, decide (h ∈ ws))
def hK (h : Wd) : Key := .inr (SX.S h)
theorem hK_inj {a b : Wd} : hK a = hK b ↔ a = b := ⟨fun h => by injection h with h; exact S_inj.mp h, fun h => by rw [h]⟩
/-- a dict of texts -/
def wK (f : Wd → V) (hs : List Wd) : List (Key × V) := hs.map fun h => (hK h, f h)
theorem wK_val {f : Wd → V} {x : Wd} : ∀ {hs : List Wd}, valV (wK f hs) (hK x) = if x ∈ hs then some (f x) else none
  | [] => rfl
  | h :: hs => by
    have ih := wK_val (f := f) (x := x) (hs := hs)
    show valV ((hK h, f h) :: wK f hs) (hK x) = _
    by_cases e : h = x
    · subst e
      rw [valV_pos (p := (hK h, f h)) rfl, if_pos (List.mem_cons_self ..)]
    · rw [valV_neg (p := (hK h, f h)) (fun q => e (hK_inj.mp q)), ih]
      by_cases m : x ∈ hs
      · rw [if_pos m, if_pos (List.mem_cons_of_mem _ m)]
      · rw [if_neg m, if_neg (fun q => (List.mem_cons.mp q).elim (fun z => e z.symm) m)]
theorem wK_new {f : Wd → V} {x : Wd} {hs : List Wd} (h : x ∉ hs) : putK (wK f hs) (hK x) (f x) = wK f (hs ++ [x]) := by
  rw [putK_new _ (by rw [wK_val, if_neg h])]
  unfold wK
  rw [List.map_append]; rfl
theorem wK_put {f : Wd → V} {x : Wd} {hs : List Wd} : putK (wK f hs) (hK x) (f x) = wK f (addK hs x) := by
  unfold addK
  by_cases h : x ∈ hs
  · rw [if_pos h]
    unfold putK
    rw [valV_any, wK_val, if_pos h, if_pos (show (some (f x)).isSome = true from rfl)]
    unfold wK
    rw [List.map_map]
    refine List.map_congr_left fun y _ => ?_
    show (if hK y = hK x then (hK y, f x) else (hK y, f y)) = (hK y, f y)
    by_cases e : hK y = hK x
    · rw [if_pos e, hK_inj.mp e]
    · rw [if_neg e]
  · rw [if_neg h, wK_new h]
theorem wK_merge {f : Wd → V} : ∀ {xs hs : List Wd}, mergeK (wK f hs) (wK f xs) = wK f (addAll hs xs)
  | [], hs => rfl
  | x :: xs, hs => by
    show mergeK (putK (wK f hs) (hK x) (f x)) (wK f xs) = _
    rw [wK_put, wK_merge]; rfl
theorem prefs_mem {w h : Wd} : h ∈ prefs w ↔ ∃ i, i < w.length ∧ h = w.take (i + 1) := by
  unfold prefs
  rw [List.mem_map]
  constructor
  · rintro ⟨i, hi, rfl⟩
    exact ⟨i, List.mem_range.mp hi, rfl⟩
  · rintro ⟨i, hi, rfl⟩
    exact ⟨i, List.mem_range.mpr hi, rfl⟩
theorem prefs_len {w : Wd} : (prefs w).length = w.length := by unfold prefs; rw [List.length_map, List.length_range]
theorem addAll_len : ∀ {xs ks : List Wd}, (addAll ks xs).length ≤ ks.length + xs.length
  | [], ks => Nat.le_refl _
  | x :: xs, ks => by
    have h1 : (addK ks x).length ≤ ks.length + 1 := by
      unfold addK
      split
      · omega
      · rw [List.length_append, List.length_singleton]; omega
    have h2 := addAll_len (xs := xs) (ks := addK ks x)
    show (addAll (addK ks x) xs).length ≤ _
    rw [List.length_cons]
    omega
theorem hd_mem : ∀ {ws acc : List Wd} {h : Wd}, h ∈ ws.foldl hdStep acc ↔ h ∈ acc ∨ ∃ w ∈ ws, h ∈ prefs w
  | [], acc, h => by simp
  | w :: ws, acc, h => by
    rw [List.foldl_cons, hd_mem]
    unfold hdStep
    rw [addAll_mem, addAll_mem]
    simp only [List.mem_cons, List.not_mem_nil, false_or, or_assoc]
    refine or_congr Iff.rfl ⟨fun q => ?_, fun q => ?_⟩
    · rcases q with q | ⟨u, hu, q⟩
      · exact ⟨w, .inl rfl, q⟩
      · exact ⟨u, .inr hu, q⟩
    · obtain ⟨u, rfl | hu, q⟩ := q
      · exact .inl q
      · exact .inr ⟨u, hu, q⟩
theorem hd_nodup : ∀ {ws acc : List Wd}, acc.Nodup → (ws.foldl hdStep acc).Nodup
  | [], _, h => h
  | w :: ws, acc, h => by
    rw [List.foldl_cons]
    exact hd_nodup (ws := ws) (acc := hdStep acc w) (addAll_nodup h)
theorem hd_len {b : Nat} : ∀ {ws acc : List Wd}, (∀ w ∈ ws, w.length ≤ b) → (ws.foldl hdStep acc).length ≤ acc.length + b * ws.length
  | [], acc, _ => Nat.le_add_right _ _
  | w :: ws, acc, h => by
    have h1 := hd_len (b := b) (ws := ws) (acc := hdStep acc w) fun u hu => h u (List.mem_cons_of_mem _ hu)
    have h2 : (hdStep acc w).length ≤ acc.length + b := by
      have a1 := addAll_len (xs := addAll [] (prefs w)) (ks := acc)
      have a2 := addAll_len (xs := prefs w) (ks := [])
      have a3 := h w (List.mem_cons_self ..)
      rw [prefs_len, List.length_nil] at a2
      unfold hdStep
      omega
    rw [List.foldl_cons, List.length_cons, Nat.mul_add, Nat.mul_one]
    omega
theorem hdsOf_mem {ws : List Wd} {h : Wd} : h ∈ hdsOf ws ↔ h = [] ∨ ∃ w ∈ ws, h ∈ prefs w := by
  unfold hdsOf
  rw [hd_mem, List.mem_singleton]
theorem hdsOf_nodup (ws : List Wd) : (hdsOf ws).Nodup := hd_nodup (List.nodup_cons.mpr ⟨by simp, List.nodup_nil⟩)
theorem lenT_inj {a b : Wd} (h : lenT a = lenT b) : a = b := congrArg Prod.snd h
theorem srt_lenT {hs : List Wd} : ∃ os : List Wd, srtT (hs.map lenT) = os.map lenT ∧ os.Perm hs := by
  have p := srtT_perm (hs.map lenT)
  refine ⟨(srtT (hs.map lenT)).map (·.2), ?_, ?_⟩
  · rw [List.map_map]
    refine (List.map_id _).symm.trans (List.map_congr_left fun q hq => ?_)
    obtain ⟨h, _, rfl⟩ := List.mem_map.mp (p.mem_iff.mp hq)
    rfl
  · have := p.map (·.2)
    rw [List.map_map] at this
    exact this.trans (List.Perm.of_eq (List.map_id' hs))
theorem sortW_perm (hs : List Wd) : (sortW hs).Perm hs := by
  obtain ⟨os, e, p⟩ := srt_lenT (hs := hs)
  unfold sortW
  rw [e, List.map_map]
  exact (List.Perm.of_eq (List.map_id' os)).trans p
theorem sortW_lenT (hs : List Wd) : srtT (hs.map lenT) = (sortW hs).map lenT := by
  obtain ⟨os, e, p⟩ := srt_lenT (hs := hs)
  unfold sortW
  rw [e, List.map_map, List.map_map]
  rfl
theorem sortW_congr {a b : List Wd} (p : a.Perm b) : sortW a = sortW b := by
  unfold sortW
  rw [srtT_congr (p.map lenT)]
theorem rowsOf_mem {ws : List Wd} {h : Wd} : h ∈ rowsOf ws ↔ h = [] ∨ ∃ w ∈ ws, h ∈ prefs w := ((sortW_perm _).mem_iff).trans hdsOf_mem
theorem rowsOf_nodup (ws : List Wd) : (rowsOf ws).Nodup := (sortW_perm _).nodup_iff.mpr (hdsOf_nodup ws)
theorem rowsOf_len (ws : List Wd) : (rowsOf ws).length = (hdsOf ws).length := (sortW_perm _).length_eq
theorem rowMv_sub {sg : List Nat} {rows : List Wd} {h : Wd} : ((rowMv sg rows h).map (·.1)).Sublist sg := by
  unfold rowMv
  induction sg with
  | nil => exact List.Sublist.refl _
  | cons c sg ih =>
    rw [List.filterMap_cons]
    by_cases m : h ++ [c] ∈ rows
    · rw [if_pos m]
      exact ih.cons_cons c
    · rw [if_neg m]
      exact ih.cons c
theorem wordSts_ok {sg : List Nat} {ws : List Wd} (h : (rowsOf ws).length ≤ 6) : StsOk sg (wordSts sg ws) := by
  have l : (wordSts sg ws).length = (rowsOf ws).length := by unfold wordSts; rw [List.length_map]
  refine ⟨?_, by omega, fun p hp => ?_⟩
  · rw [l]
    exact List.length_pos_of_mem (rowsOf_mem.mpr (.inl rfl))
  · rw [l]
    obtain ⟨h, hh, rfl⟩ := List.mem_map.mp hp
    refine ⟨rowMv_sub, fun q hq => ?_⟩
    obtain ⟨c, _, e⟩ := List.mem_filterMap.mp hq
    by_cases m : h ++ [c] ∈ rowsOf ws
    · rw [if_pos m] at e
      cases e
      exact ixOf_lt m
    · rw [if_neg m] at e
      cases e
theorem ixOf_at : ∀ {ks : List Wd} {i : Nat} {k : Wd}, ks.Nodup → ks[i]? = some k → ixOf ks k = i := by
  intro ks i k nd h
  have h2 := ixOf_get (List.mem_of_getElem? h)
  exact (List.getElem?_inj (ixOf_lt (List.mem_of_getElem? h)) nd).mp (h2.trans h.symm)
theorem rowMv_snoc {sg : List Nat} {rows : List Wd} {h : Wd} {i c : Nat} (hc : sg[i]? = some c) : rowMv (sg.take (i + 1)) rows h = rowMv (sg.take i) rows h ++ (if h ++ [c] ∈ rows then [(c, ixOf rows (h ++ [c]))] else []) := by
  rw [take_snoc hc]
  unfold rowMv
  rw [List.filterMap_append]
  congr 1
  rw [List.filterMap_cons]
  by_cases m : h ++ [c] ∈ rows
  · rw [if_pos m, if_pos m]; rfl
  · rw [if_neg m, if_neg m]; rfl
theorem rowMv_keys {sg : List Nat} {rows : List Wd} {h : Wd} : ∀ kv ∈ kRow (rowMv sg rows h), ∃ d ∈ sg, kv.1 = (.inr ⟨#[d]⟩ : Key) := fun kv hk => by
  obtain ⟨q, hq, rfl⟩ := List.mem_map.mp hk
  exact ⟨q.1, rowMv_sub.subset (List.mem_map.mpr ⟨q, hq, rfl⟩), rfl⟩
end Fs
namespace Fs
open PySem PySem.Spec PyProof.Rows L2 SlX RZ
abbrev rAddS : R2 := fun x y H Q => ∃ i j, x = .str i ∧ y = .str j ∧ i.length + j.length ≤ sizeLine ∧ Q (.str (i ++ j)) H
theorem S_add (a b : List Nat) : SX.S a ++ SX.S b = SX.S (a ++ b) := cps_inj (by rw [cps_add])
theorem S_len (a : List Nat) : (SX.S a).length = a.length := len_cps _
theorem cut_to {w : List Nat} {i : Nat} (h : i < w.length) : cutS (SX.S w) none (some ((i : Nat) + 1 : Int)) = SX.S (w.take (i + 1)) := by
  refine cps_inj ?_
  have e1 : HT.sIx (SX.S w).length 0 none = 0 := rfl
  have e2 : HT.sIx (SX.S w).length (SX.S w).length (some ((i : Nat) + 1 : Int)) = i + 1 := by
    have := HT.sIx_nat (SX.S w).length (SX.S w).length (i + 1)
    rw [S_len] at this ⊢
    rw [show ((i : Nat) + 1 : Int) = ((i + 1 : Nat) : Int) from rfl, this]
    omega
  show (((w.drop (HT.sIx (SX.S w).length 0 none)).take (HT.sIx (SX.S w).length (SX.S w).length (some ((i : Nat) + 1 : Int)) - HT.sIx (SX.S w).length 0 none)).toArray).toList = w.take (i + 1)
  rw [e1, e2]
  rfl
theorem s1_len (w : List Nat) : ((SX.S w).cps.toList.map S1).length = w.length := List.length_map ..
theorem unlock_same {H H0 H' : Hp} {d : Addr} {u : HO} {od : Obj} (e0 : Same H H0) (hd : H0 d = some u) (e : Same (upd H0 d (.frz od u)) H') : Same H (upd H' d u) := fun b o h => by
  have h0 := e0 _ _ h
  by_cases c : b = d
  · rw [c] at h0 ⊢
    rw [hd] at h0
    cases h0
    exact upd_same
  · rw [upd_ne c]
    exact e _ _ (by rw [upd_ne c]; exact h0)
section
variable {P : Program} {w : World} {K : PySem.W.Frag} {mg : Str → Option Value} {base : Heap} {C TM : Addr} {f : Addr} {fd : FuncData}
structure WdOk (sg : List Nat) (ws : List Wd) : Prop where
  few : ws.length ≤ 8
  len : ∀ u ∈ ws, u.length ≤ 8
  low : ∀ u ∈ ws, TOk (SX.S u)
  ok : ∀ u ∈ ws, wordL (SX.S sg) (SX.S u) = true
theorem WdOk.heads {sg : List Nat} {ws : List Wd} (h : WdOk sg ws) : (hdsOf ws).length ≤ 65 := by
  have := hd_len (b := 8) (ws := ws) (acc := [[]]) h.len
  have h2 := h.few
  unfold hdsOf
  rw [List.length_singleton] at this
  omega
theorem WdOk.hlen {sg : List Nat} {ws : List Wd} (h : WdOk sg ws) {x : Wd} (hx : x ∈ hdsOf ws) : x.length ≤ 8 := by
  rcases hdsOf_mem.mp hx with rfl | ⟨u, hu, hp⟩
  · exact Nat.zero_le _
  · obtain ⟨i, _, rfl⟩ := prefs_mem.mp hp
    have := h.len u hu
    rw [List.length_take]
    omega
def spOfW (C TM : Addr) : Sp := fun vs H Q E => ∃ (wt : Addr) (sg : List Nat) (ws : List Wd), vs = [.ref C, .str (SX.S sg), .ref wt] ∧ H wt = some (.tup (ws.map fun u => .str (SX.S u))) ∧ SgOk sg ∧ WdOk sg ws ∧
  ((rowsOf ws).length ≤ 6 → ∀ (z : Addr) (H' : Hp), Same H H' → H z = none → RuAt H' z C sg (wordSts sg ws) → Q (.ref z) H') ∧ (6 < (rowsOf ws).length → TooX TM E H)
abbrev s_m_of_words : Stmt := inClass (top 27) 2
theorem sc_m_of_words : FnScope ["cls", "signs", "words", "heads", "word", "rows", "numbers", "moves", "size", "pair", "head", "number", "sign", "row"] ["cls", "signs", "words"] (defScope s_m_of_words) := ⟨rfl, rfl, rfl, by decide +kernel, rfl, by decide +kernel, by decide +kernel⟩
theorem fn_of_words {fI : Addr} (T : Bs mg) (G : Gs mg) (ze : mg "enumerate" = none) (Z : Rx K mg C) (TM0 : TMx P K mg TM) (F : L2.Fun K "of_words" "Rule.of_words" s_m_of_words f fd) (C_p_req : CalP P w K mg base CX0 2 "require_signs" spReq) (C_p_word : CalP P w K mg base CX0 1 "is_word_of" spWord2) (MK : L2.Mk K C fI) (F_init : FnR P w K mg base CX0 4 fI (spInit C)) : FnOk P w K mg base (L2.CX P w) 6 f fd ["cls", "signs", "words"] (spOfW C TM) := by
  obtain ⟨fT, tf⟩ := TM0.ex
  refine F.okX sc_m_of_words (fun vs H Q E h => ?_) (fun cdv A outer s H vs Q E hr h => ?_)
  · obtain ⟨wt, sg, ws, rfl, _⟩ := h
    rfl
  · obtain ⟨wt, sg, ws, rfl, h1, sgo, wo, k1, k2⟩ := h
    refine ⟨_, pss_cons (ps_expr (pcP C_p_req hr (pa_cons (pv 1) pa_nil)))
      (pss_cons (ps_if (PW.pt (pw_or (pt_not (pt_val (pb call_isi T.z_isinstance (pa_cons (pv 2) (pa_cons (pe_bltn (v := .ty "tuple") (u := .type "tuple") rfl T.z_tuple (by decide +kernel) rfl) pa_nil))))) (pw_or1 (pt_not (pt_val (pb (cr_all rfl) T.z_all (pa_cons (pe_lc (own := [("word", 4)]) (te := (tCallS spWord2 (fun _ => E0) (tCons (tVar 1) (tCons (tVar 4) tNil)))) rfl sc_m_of_words.nd (pi_tup (pv 2)) (blkOk_by (N := ["cls", "signs", "words", "heads", "word", "rows", "numbers", "moves", "size", "pair", "head", "number", "sign", "row"]) (sc := defScope s_m_of_words) (by decide +kernel)) (fun _ _ _ _ _ => (pg_name (i := 4) sc_m_of_words.nd rfl (Or.inl rfl))) (fun _ _ _ _ _ => pts_nil) (fun _ _ _ _ _ => (pcP C_p_word hr (pa_cons (pv 1) (pa_cons (pv 4) pa_nil))))) pa_nil)))))))
        (pss_one ps_never)
        pss_nil)
      (pss_cons (ps_set (i := 3) sc_m_of_words.nd rfl (.inl rfl) (pe_disp (pps_cons pe_str pe_bl pps_nil) rfl rfl (by simp) (by decide)))
      (pss_cons (ps_for (passes_of rfl) rfl (pi_tup (pv 2)) (pg_name (i := 4) sc_m_of_words.nd rfl (Or.inr rfl))
        (pss_one (ps_expr (pe_bm PySem.F.plainAttrs_dict PySem.F.slot_dict_update PySem.F.type_dict_update mtd_update (pv 3) (pa_cons (pe_dc (own := [("size", 8)]) (tk := (tSl rSlS (tVar 4) tNoPart (tPart (tOp (rI0 fun i j => .int (i + j)) (tVar 8) (tC (.int 1)))))) (tv := (tC (.bl true))) rfl sc_m_of_words.nd (pi_range1 (by rfl) T.z_range (pa_cons (pb call_len3 T.z_len (pa_cons (pv 4) pa_nil)) pa_nil)) (blkOk_by (N := ["cls", "signs", "words", "heads", "word", "rows", "numbers", "moves", "size", "pair", "head", "number", "sign", "row"]) (sc := defScope s_m_of_words) (by decide +kernel)) (fun _ _ _ _ _ => (pg_name (i := 8) sc_m_of_words.nd rfl (Or.inl rfl))) (fun _ _ _ _ _ => pts_nil) (fun _ _ _ _ _ => (pe_slice sl_str (pv 4) po_none (po_some (pe_op op_add (pv 8) pe_int)))) (fun _ _ _ _ _ => pe_bl)) pa_nil)))))
      (pss_cons (ps_if (pt_cmpR op_gt (pb call_lenD T.z_len (pa_cons (pv 3) pa_nil)) (pe_gint G.g_MAX_STATES) (nomark _))
        (pss_one (ps_raise rfl (takes_of rfl rfl rfl rfl) (pmk_sup tf TM0.b (hr.mono (by decide)) rfl TM0.g (pe_gint G.g_MAX_STATES))))
        pss_nil)
      (pss_cons (ps_setLc (i := 5) (own := [("pair", 9)]) (te := (tOp (rIxT K) (tVar 9) (tC (.int 1)))) rfl sc_m_of_words.nd rfl rfl (sw_true rfl rfl rfl (by decide +kernel)) (pi_list (pb cr_sortedIT T.z_sorted (pa_cons (pe_lock (pe_lc (own := [("head", 10)]) (te := (tTup (tCons (tCB (rLen3 K) (tCons (tVar 10) tNil)) (tCons (tVar 10) tNil)))) rfl sc_m_of_words.nd (pi_keys (pv 3)) (blkOk_by (N := ["cls", "signs", "words", "heads", "word", "rows", "numbers", "moves", "size", "pair", "head", "number", "sign", "row"]) (sc := defScope s_m_of_words) (by decide +kernel)) (fun _ _ _ _ _ => (pg_name (i := 10) sc_m_of_words.nd rfl (Or.inl rfl))) (fun _ _ _ _ _ => pts_nil) (fun _ _ _ _ _ => (pe_tup (pa_cons (pb call_len3 T.z_len (pa_cons (pv 10) pa_nil)) (pa_cons (pv 10) pa_nil)))))) pa_nil))) (blkOk_by (N := ["cls", "signs", "words", "heads", "word", "rows", "numbers", "moves", "size", "pair", "head", "number", "sign", "row"]) (sc := defScope s_m_of_words) (by decide +kernel)) (fun _ _ _ _ _ => (pg_name (i := 9) sc_m_of_words.nd rfl (Or.inl rfl))) (fun _ _ _ _ _ => pts_nil) (fun _ _ _ _ _ => (pe_ix ix_tup (pv 9) pe_int (fun _ _ => rfl))))
      (pss_cons (ps_set (i := 6) sc_m_of_words.nd rfl (.inr rfl) (pe_dc (own := [("number", 11), ("head", 10)]) (tk := (tVar 10)) (tv := (tVar 11)) (g := gTup K 2 (gCons (gName 11) (gCons (gName 10) gNil))) rfl sc_m_of_words.nd (pi_enum rfl ze (pa_cons (pv 5) pa_nil)) (blkOk_by (N := ["cls", "signs", "words", "heads", "word", "rows", "numbers", "moves", "size", "pair", "head", "number", "sign", "row"]) (sc := defScope s_m_of_words) (by decide +kernel)) (fun _ _ _ _ _ => (pg_tup rfl (pgs_cons (pg_name (i := 11) sc_m_of_words.nd rfl (Or.inl rfl)) (pgs_cons (pg_name (i := 10) sc_m_of_words.nd rfl (Or.inl rfl)) pgs_nil)))) (fun _ _ _ _ _ => pts_nil) (fun _ _ _ _ _ => (pv 10)) (fun _ _ _ _ _ => (pv 11))))
      (pss_cons (ps_setLc (i := 7) (own := [("head", 10)]) (te := (tDc (iStr (tVar 1)) (gName 12) (tTest (tDIn (tOp rAddS (tVar 10) (tVar 12)) (tVar 6))) (tVar 12) (tDGet (tVar 6) (tOp rAddS (tVar 10) (tVar 12))) [12])) rfl sc_m_of_words.nd rfl rfl (sw_true rfl rfl rfl (by decide +kernel)) (pi_list (pv 5)) (blkOk_by (N := ["cls", "signs", "words", "heads", "word", "rows", "numbers", "moves", "size", "pair", "head", "number", "sign", "row"]) (sc := defScope s_m_of_words) (by decide +kernel)) (fun _ _ _ _ _ => (pg_name (i := 10) sc_m_of_words.nd rfl (Or.inr rfl))) (fun _ _ _ _ _ => pts_nil) (fun _ _ _ _ _ => (pe_dc (own := [("sign", 12)]) (tk := (tVar 12)) (tt := (tTest (tDIn (tOp rAddS (tVar 10) (tVar 12)) (tVar 6)))) (tv := (tDGet (tVar 6) (tOp rAddS (tVar 10) (tVar 12)))) rfl sc_m_of_words.nd (pi_str (pv 1)) (blkOk_by (N := ["cls", "signs", "words", "heads", "word", "rows", "numbers", "moves", "size", "pair", "head", "number", "sign", "row"]) (sc := { kind := .function, names := [(".0", .local), ("head", .cell), ("numbers", .cell), ("signs", .cell)], isGenerator := false, isCoroutine := false }) (by decide +kernel)) (fun _ _ _ _ _ => (pg_name (i := 12) sc_m_of_words.nd rfl (Or.inl rfl))) (fun _ _ _ _ _ => (pts_one (pt_cmp (pc_din (hu_of hr) (pe_op op_add_str (pv 10) (pv 12)) (pv 6))))) (fun _ _ _ _ _ => (pv 12)) (fun _ _ _ _ _ => (pe_dget (hu_of hr) (pv 6) (pe_op op_add_str (pv 10) (pv 12)) (fun _ _ => rfl))))))
      (pss_one (ps_ret (pe_makeV MK F_init (hr.mono (by decide)) (pv 0) pass0 (pa_cons (pv 1) (pa_cons (pt call_tuple_of T.z_tuple (pa_cons (pe_lc (own := [("row", 13), ("head", 10)]) (te := (tTup (tCons (tVar 13) (tCons (tOp (rIn K false) (tVar 10) (tVar 2)) tNil)))) (g := gTup K 2 (gCons (gName 13) (gCons (gName 10) gNil))) rfl sc_m_of_words.nd (pi_zip rfl T.z_zip (pa_cons (pv 7) (pa_cons (pv 5) pa_nil))) (blkOk_by (N := ["cls", "signs", "words", "heads", "word", "rows", "numbers", "moves", "size", "pair", "head", "number", "sign", "row"]) (sc := defScope s_m_of_words) (by decide +kernel)) (fun _ _ _ _ _ => (pg_tup rfl (pgs_cons (pg_name (i := 13) sc_m_of_words.nd rfl (Or.inl rfl)) (pgs_cons (pg_name (i := 10) sc_m_of_words.nd rfl (Or.inl rfl)) pgs_nil)))) (fun _ _ _ _ _ => pts_nil) (fun _ _ _ _ _ => (pe_tup (pa_cons (pv 13) (pa_cons (pe_cmpR op_in_seq (pv 10) (pv 2) (by rfl)) pa_nil))))) pa_nil)) pa_nil)))))))))))), ?_⟩
    have nd := sgo.nodup
    have lsg := sgo.len
    refine ⟨_, rfl, _, rfl, sgo.tok, sgo.ok, fun H1 e1 => ?_⟩
    have w1 := e1 _ _ h1
    refine ⟨_, rfl, _, .ty "tuple", _, _, _, rfl, .ty "tuple", .base (.tup w1), kit_ty (by decide +kernel : kitB "tuple" "tuple" = some true), _, rfl, iteF ?_⟩
    refine ⟨_, rfl, wt, rfl, ⟨_, SqT.of w1⟩, fun D hD => ?_⟩
    refine lc_it (walk_tup (xs := ws.map fun u => V.str (SX.S u))) (fun i H2 => Same H1 H2 ∧ H2 D = some (.lst (List.replicate i (V.bl true)))) ?_ ?_ ?_ ?_
    · exact ⟨same_upd (Same.refl H1) hD, upd_same⟩
    · rintro i H2 _ ⟨e2, _⟩
      exact SqT.of (e2 _ _ w1)
    · rintro i x H2 H3 hi ⟨e2, e3⟩ ⟨rfl, hx⟩
      rw [List.getElem?_map] at hx
      obtain ⟨u, hu, rfl⟩ := Option.map_eq_some_iff.mp hx
      have hm := List.mem_of_getElem? hu
      rw [List.length_map] at hi
      have few := wo.few
      refine ⟨rfl, _, rfl, _, rfl, SX.S sg, _, _, rfl, .str _ (wo.low u hm), fun H4 e4 => ?_⟩
      rw [show isWordD (SX.S sg) (.str (SX.S u)) = true from wo.ok u hm]
      refine ⟨_, e4 _ _ e3, by rw [List.length_replicate, sizeLine_eq]; omega, same_mut (e2.trans e4) hD, ?_⟩
      rw [upd_same, List.replicate_succ']
    rintro H2 ⟨e2, e3⟩
    rw [List.length_map] at e3
    refine ⟨D, List.replicate ws.length true, rfl, SqL.of ?_, ?_⟩
    · rw [e3, List.map_replicate]
    rw [show (List.replicate ws.length true).all id = true by simp]
    refine ⟨_, rfl, iteF ?_⟩
    have e02 := e1.trans e2
    clear e3
    have w2 := e02 _ _ h1
    refine fun Dh hDh => ⟨upd_same, [(hK [], .bl true)], rfl, by show 1 ≤ 15; decide, ?_⟩
    rw [L2.upd_upd]
    have nDh : H Dh = none := e02.free hDh
    have e3 := same_upd (o := .dK (wK (fun _ => .bl true) [[]])) e02 hDh
    have k3 : (upd H2 Dh (.dK (wK (fun _ => .bl true) [[]]))) Dh = some (.dK (wK (fun _ => .bl true) [[]])) := upd_same
    rw [show mergeK [] [(hK [], V.bl true)] = wK (fun _ => .bl true) [[]] from rfl]
    generalize upd H2 Dh (.dK (wK (fun _ => .bl true) [[]])) = H3 at e3 k3
    refine ⟨_, rfl, wt, rfl, ⟨_, SqT.of (e3 _ _ h1)⟩, for_it (walk_tup (xs := ws.map fun u => V.str (SX.S u))) (fun i σ H4 => ∃ x4 : Option V, σ = [some (.ref C), some (.str (SX.S sg)), some (.ref wt), some (.ref Dh), x4, none, none, none, none, none, none, none, none, none] ∧ Same H H4 ∧ H4 Dh = some (.dK (wK (fun _ => .bl true) ((ws.take i).foldl hdStep [[]])))) ?_ ?_ ?_ ?_⟩
    · exact ⟨none, rfl, e3, k3⟩
    · rintro i σ H4 _ ⟨x4, rfl, g1, g2⟩
      exact SqT.of (g1 _ _ h1)
    · rintro i x σ H4 H5 hi ⟨x4, rfl, g1, g2⟩ ⟨rfl, hx⟩
      rw [List.getElem?_map] at hx
      obtain ⟨u, hu, rfl⟩ := Option.map_eq_some_iff.mp hx
      have hm := List.mem_of_getElem? hu
      have lu := wo.len u hm
      refine ⟨_, rfl, .inr (.inr (.inl ⟨rfl, .inl ⟨_, g2⟩⟩)), ?_⟩
      refine ⟨_, rfl, _, _, rfl, Of3.str (z := SX.S u) (by rw [S_len]; omega), ?_⟩
      rw [s1_len]
      refine ⟨(u.length : Nat), rfl, by omega, by omega, fun D2 hD2 => ?_⟩
      refine dc_it (walk_range (lo := 0) (n := u.length)) (fun n H6 => Same H5 H6 ∧ H6 D2 = some (.dK (wK (fun _ => .bl true) (addAll [] ((List.range n).map fun i => u.take (i + 1)))))) ?_ ?_ ?_ ?_
      · exact ⟨same_upd (Same.refl H5) hD2, upd_same⟩
      · exact fun _ _ _ _ => trivial
      · rintro n y H6 H7 hn ⟨f1, f2⟩ ⟨rfl, rfl⟩
        refine ⟨rfl, _, rfl, _, rfl, _, _, rfl, rfl, _, rfl, _, rfl, by rw [S_len, sizeLine_eq]; omega, ?_⟩
        rw [Int.zero_add, cut_to hn]
        refine ⟨_, hK (u.take (n + 1)), rfl, f2, ?_, same_mut f1 hD2, ?_⟩
        · have := addAll_len (xs := (List.range n).map fun i => u.take (i + 1)) (ks := [])
          rw [List.length_map, List.length_range, List.length_nil] at this
          unfold wK
          rw [List.length_map, sizeLine_eq]; omega
        · rw [upd_same, wK_put (f := fun _ => V.bl true), ← addAll_snoc, List.range_succ, List.map_append]; rfl
      · rintro H6 ⟨f1, f2⟩
        have f2 : H6 D2 = some (.dK (wK (fun _ => .bl true) (addAll [] (prefs u)))) := f2
        have nD2 : Dh ≠ D2 := ne_of_none g2 hD2
        have gl := hd_len (b := 8) (ws := ws.take i) (acc := [[]]) fun v hv => wo.len v (List.mem_of_mem_take hv)
        have pl := addAll_len (xs := prefs u) (ks := [])
        rw [prefs_len, List.length_nil] at pl
        rw [List.length_take, List.length_singleton] at gl
        have few := wo.few
        refine ⟨Dh, D2, _, _, rfl, rfl, f1 _ _ g2, .inl f2, nD2, ?_, _, rfl, same_mut (g1.trans f1) nDh, ?_⟩
        · unfold wK
          rw [List.length_map, List.length_map, sizeLine_eq]; omega
        · rw [upd_same, wK_merge, take_snoc hu, List.foldl_append]; rfl
    rintro σ H4 ⟨x4, rfl, g1, g2⟩
    rw [List.length_map, List.take_of_length_le (Nat.le_refl _)] at g2
    have g2 : H4 Dh = some (.dK (wK (fun _ => .bl true) (hdsOf ws))) := g2
    have lh := wo.heads
    refine ⟨_, rfl, Dh, _, rfl, g2, ?_⟩
    rw [show (wK (fun _ => V.bl true) (hdsOf ws)).length = (rowsOf ws).length by unfold wK; rw [List.length_map, rowsOf_len]]
    refine ⟨_, _, rfl, rfl, _, rfl, ?_⟩
    by_cases c6 : 6 < (rowsOf ws).length
    · rw [decide_eq_true (show (6 : Int) < ((rowsOf ws).length : Nat) by omega)]
      refine iteT fun d hd => ?_
      exact k2 c6 d _ (same_upd g1 hd) upd_same
    rw [decide_eq_false (show ¬ (6 : Int) < ((rowsOf ws).length : Nat) by omega)]
    refine iteF ?_
    refine ⟨Dh, _, g2, trivial, fun od => ?_⟩
    have l2 : (upd H4 Dh (.frz od (.dK (wK (fun _ => .bl true) (hdsOf ws))))) Dh = some (.frz od (.dK (wK (fun _ => .bl true) (hdsOf ws)))) := upd_same
    have us := fun H' => unlock_same (H' := H') (od := od) g1 g2
    generalize upd H4 Dh (.frz od (.dK (wK (fun _ => .bl true) (hdsOf ws)))) = Hl at l2 us
    refine ⟨_, rfl, Dh, od, rfl, .inl ⟨_, l2, fun L hL => ?_⟩⟩
    refine lc_it walk_keys (fun n H5 => Same Hl H5 ∧ ∃ as : List Addr, H5 L = some (.lst (as.map V.ref)) ∧ Paired (fun a (h : Wd) => H5 a = some (.tup (itV (lenT h)))) as ((hdsOf ws).take n)) ?_ ?_ ?_ ?_
    · exact ⟨same_upd (Same.refl Hl) hL, [], upd_same, .nil⟩
    · rintro n H5 _ ⟨f1, _⟩
      exact f1 _ _ l2
    · rintro n x H5 H6 hn ⟨f1, as, f2, f3⟩ ⟨rfl, kk, vv, hk, rfl⟩
      unfold wK at hk
      rw [List.getElem?_map] at hk
      obtain ⟨h, hh, ek⟩ := Option.map_eq_some_iff.mp hk
      cases ek
      have hl8 := wo.hlen (List.mem_of_getElem? hh)
      refine ⟨rfl, _, rfl, _, _, rfl, Of3.str (z := SX.S h) (by rw [S_len]; omega), _, rfl, by show 2 ≤ sizeLine; decide, fun p hp => ?_⟩
      rw [s1_len, show kV (hK h) = V.str (SX.S h) from rfl]
      have e6 := same_upd (o := .tup [.int (h.length : Nat), .str (SX.S h)]) (Same.refl H6) hp
      have k6 : (upd H6 p (.tup [.int (h.length : Nat), .str (SX.S h)])) p = some (.tup (itV (lenT h))) := upd_same
      generalize upd H6 p (.tup [.int (h.length : Nat), .str (SX.S h)]) = H7 at e6 k6
      have f2' := e6 _ _ f2
      have las := paired_len f3
      rw [List.length_take] at las
      have hle : ∀ b xs, H7 b = some (.tup xs) → (upd H7 L (.lst (as.map V.ref ++ [.ref p]))) b = some (.tup xs) := fun b xs hb => by
        rw [upd_ne (ne_of hb f2' (fun z => by cases z))]; exact hb
      refine ⟨_, f2', by rw [List.length_map, sizeLine_eq]; omega, same_mut (f1.trans e6) hL, as ++ [p], by rw [upd_same, List.map_append]; rfl, ?_⟩
      exact paired_take_snoc (L2.Paired.mapP f3 fun _ _ h => hle _ _ (e6 _ _ h)) hh (hle _ _ k6)
    rintro H5 ⟨f1, as, f2, f3⟩
    rw [show (wK (fun _ => V.bl true) (hdsOf ws)).length = (hdsOf ws).length from List.length_map .., List.take_of_length_le (Nat.le_refl _)] at f3
    have e5 := us H5 f1
    refine ⟨f1 _ _ l2, ?_⟩
    have nL : L ≠ Dh := ne_of f2 (f1 _ _ l2) (fun z => by cases z)
    have f2' : (upd H5 Dh (.dK (wK (fun _ => .bl true) (hdsOf ws)))) L = some (.lst (as.map V.ref)) := by rw [upd_ne nL]; exact f2
    have f3' : Paired (fun a (h : Wd) => (upd H5 Dh (.dK (wK (fun _ => .bl true) (hdsOf ws)))) a = some (.tup (itV (lenT h)))) as (hdsOf ws) := L2.Paired.mapP f3 fun a h ha => by
      rw [upd_ne (ne_of ha (f1 _ _ l2) (fun z => by cases z))]; exact ha
    generalize upd H5 Dh (.dK (wK (fun _ => .bl true) (hdsOf ws))) = H6 at e5 f2' f3'
    have f4 : Paired (fun x p => ∃ t, x = V.ref t ∧ H6 t = some (.tup (itV p))) (as.map V.ref) ((hdsOf ws).map lenT) := by
      clear f2 f2' f3 f1
      generalize hdsOf ws = hs at f3'
      induction f3' with
      | nil => exact .nil
      | cons a b ih => exact .cons ⟨_, rfl, a⟩ ih
    refine ⟨L, _, _, rfl, SqL.of f2', f4, fun ys p hys hp => ?_⟩
    rw [sortW_lenT] at hys
    have hys : Paired (fun x p => ∃ t, x = V.ref t ∧ H6 t = some (.tup (itV p))) ys ((rowsOf ws).map lenT) := hys
    have e6 := same_upd (o := .lst ys) (Same.refl H6) hp
    have k6 : (upd H6 p (.lst ys)) p = some (.lst ys) := upd_same
    generalize upd H6 p (.lst ys) = H7 at e6 k6
    have e07 := e5.trans e6
    have lys := paired_len hys
    rw [List.length_map] at lys
    refine ⟨p, rfl, ⟨_, SqL.of k6⟩, fun R hR => ?_⟩
    refine lc_it (walk_list (xs := ys)) (fun n H8 => Same H7 H8 ∧ H8 R = some (.lst (((rowsOf ws).take n).map fun h => V.str (SX.S h)))) ?_ ?_ ?_ ?_
    · exact ⟨same_upd (Same.refl H7) hR, upd_same⟩
    · rintro n H8 _ ⟨f1, _⟩
      exact SqL.of (f1 _ _ k6)
    · rintro n x H8 H9 hn ⟨f1, f2⟩ ⟨rfl, hx⟩
      obtain ⟨q, hq, t, rfl, ht⟩ := paired_get hys hx
      rw [List.getElem?_map] at hq
      obtain ⟨h, hh, rfl⟩ := Option.map_eq_some_iff.mp hq
      refine ⟨rfl, _, rfl, t, _, 1, .str (SX.S h), rfl, rfl, SqT.of (f1 _ _ (e6 _ _ ht)), rfl, _, f2, by rw [List.length_map, List.length_take, sizeLine_eq]; omega, same_mut f1 hR, ?_⟩
      rw [upd_same, take_snoc hh, List.map_append]; rfl
    rintro H8 ⟨g3, g4⟩
    rw [lys, List.take_of_length_le (Nat.le_refl _)] at g4
    have e08 := e07.trans g3
    have nR : H R = none := e07.free hR
    clear k6 f4 hys e6 f2' f3' us l2
    have rnd := rowsOf_nodup ws
    have rl : (rowsOf ws).length ≤ 6 := by omega
    have k1 := k1 rl
    have hl8 : ∀ h ∈ rowsOf ws, h.length ≤ 8 := fun h hh => wo.hlen ((sortW_perm (hdsOf ws)).mem_iff.mp hh)
    have ok : StsOk sg (wordSts sg ws) := wordSts_ok rl
    unfold wordSts at k1 ok
    generalize rowsOf ws = rows at g4 rnd rl k1 hl8 ok
    generalize hst : (rows.map fun h => (rowMv sg rows h, decide (h ∈ ws))) = st at k1 ok
    refine ⟨_, rfl, R, _, rfl, SqL.of g4, fun N hN => ?_⟩
    refine dc_it (walk_enum (xs := rows.map fun h => V.str (SX.S h))) (fun n H9 => Same H8 H9 ∧ H9 N = some (.dK (wK (fun h => .int (ixOf rows h : Nat)) (rows.take n)))) ?_ ?_ ?_ ?_
    · exact ⟨same_upd (Same.refl H8) hN, upd_same⟩
    · rintro n H9 _ ⟨f1, _⟩
      exact SqL.of (f1 _ _ g4)
    · rintro n y H9 Ha hn ⟨f1, f2⟩ ⟨T1, x1, y1, rfl, hT1, rfl, hx1, hy1⟩
      have hx1 : some (V.int (n : Nat)) = some x1 := hx1
      cases hx1
      have hy1 : (rows.map fun h => V.str (SX.S h))[n]? = some y1 := hy1
      rw [List.getElem?_map] at hy1
      obtain ⟨h, hh, rfl⟩ := Option.map_eq_some_iff.mp hy1
      have ei := ixOf_at rnd hh
      have hm : h ∉ rows.take n := by
        intro q
        obtain ⟨j, hj⟩ := List.getElem?_of_mem q
        rw [List.getElem?_take] at hj
        split at hj
        · rename_i c
          have := ixOf_at rnd hj
          omega
        · cases hj
      have e3 := same_upd (o := .tup [.int (n : Nat), .str (SX.S h)]) (Same.refl H9) hT1
      refine ⟨T1, _, rfl, SqT.of upd_same, rfl, _, _, rfl, _, _, rfl, rfl, rfl, _, rfl, _, rfl, _, hK h, rfl, e3 _ _ f2, ?_, same_mut (f1.trans e3) hN, ?_⟩
      · unfold wK
        rw [List.length_map, List.length_take, sizeLine_eq]; omega
      · rw [upd_same, take_snoc hh, ← wK_new (f := fun h => V.int (ixOf rows h : Nat)) hm, ei]
    rintro H9 ⟨g5, g6⟩
    rw [List.length_map, List.take_of_length_le (Nat.le_refl _)] at g6
    have e09 := e08.trans g5
    have r9 := g5 _ _ g4
    have nN : H N = none := e08.free hN
    clear g4 g3 g5
    refine ⟨_, rfl, R, rfl, ⟨_, SqL.of r9⟩, fun M hM => ?_⟩
    refine lc_it (walk_list (xs := rows.map fun h => V.str (SX.S h))) (fun n Ha => Same H9 Ha ∧ ∃ ds : List Addr, Ha M = some (.lst (ds.map V.ref)) ∧ Paired (fun d (h : Wd) => RowAt Ha d (rowMv sg rows h)) ds (rows.take n)) ?_ ?_ ?_ ?_
    · exact ⟨same_upd (Same.refl H9) hM, [], upd_same, .nil⟩
    · rintro n Ha _ ⟨f1, _⟩
      exact SqL.of (f1 _ _ r9)
    · rintro n x Ha Hb hn ⟨f1, ds, f2, f3⟩ ⟨rfl, hx⟩
      rw [List.getElem?_map] at hx
      obtain ⟨h, hh, rfl⟩ := Option.map_eq_some_iff.mp hx
      have h8 := hl8 h (List.mem_of_getElem? hh)
      refine ⟨rfl, _, rfl, _, rfl, fun E2 hE2 => ?_⟩
      refine dc_it walk_str (fun m Hc => Same Hb Hc ∧ Hc E2 = some (.dK (kRow (rowMv (sg.take m) rows h)))) ?_ ?_ ?_ ?_
      · exact ⟨same_upd (Same.refl Hb) hE2, upd_same⟩
      · exact fun _ _ _ _ => trivial
      · rintro m y Hc Hd hm ⟨b1, b2⟩ ⟨rfl, c, hc, rfl⟩
        have hc' : sg[m]? = some c := by rw [← Array.getElem?_toList] at hc; exact hc
        have gN : Hd N = some (.dK (wK (fun h => .int (ixOf rows h : Nat)) rows)) := b1 _ _ (f1 _ _ g6)
        have ek : V.str (SX.S h ++ ⟨#[c]⟩) = kV (hK (h ++ [c])) := by
          show V.str (SX.S h ++ SX.S [c]) = V.str (SX.S (h ++ [c]))
          rw [S_add]
        have gk := DGet.k (k := hK (h ++ [c])) gN
        rw [wK_val] at gk
        have l1c : (⟨#[c]⟩ : Str).length = 1 := rfl
        refine ⟨rfl, _, rfl, _, rfl, _, _, rfl, rfl, by rw [S_len, l1c, sizeLine_eq]; omega, _, rfl, N, _, rfl, by rw [ek]; exact gk, _, rfl, ?_⟩
        rw [rowMv_snoc hc']
        by_cases q : h ++ [c] ∈ rows
        · rw [if_pos q] at gk
          rw [if_pos q, if_pos q]
          refine iteT ⟨_, rfl, _, rfl, _, rfl, _, rfl, _, _, rfl, rfl, by rw [S_len, l1c, sizeLine_eq]; omega, N, _, rfl, by rw [ek]; exact gk, ?_⟩
          refine ⟨_, .inr ⟨#[c]⟩, rfl, b2, ?_, same_mut b1 hE2, ?_⟩
          · have h1 := rowMv_sub (sg := sg.take m) (rows := rows) (h := h)
            have h2 := h1.length_le
            rw [List.length_map, List.length_take] at h2
            unfold kRow
            rw [List.length_map, sizeLine_eq]; omega
          · rw [upd_same, put_row rowMv_keys (take_not_mem nd hc')]
            unfold kRow
            rw [List.map_append]; rfl
        · rw [if_neg q, if_neg q]
          refine iteF ⟨b1, ?_⟩
          rw [List.append_nil]
          exact b2
      · rintro Hc ⟨b1, b2⟩
        have e9 : sg.take (SX.S sg).cps.size = sg := List.take_of_length_le (Nat.le_of_eq (len_cps (SX.S sg)).symm)
        rw [e9] at b2
        have f2' := b1 _ _ f2
        have lds := paired_len f3
        rw [List.length_take] at lds
        have hle : ∀ b l, Hc b = some (.dK l) → (upd Hc M (.lst (ds.map V.ref ++ [.ref E2]))) b = some (.dK l) := fun b l hb => by
          rw [upd_ne (ne_of hb f2' (fun z => by cases z))]; exact hb
        refine ⟨_, f2', by rw [List.length_map, sizeLine_eq]; omega, same_mut (f1.trans b1) hM, ds ++ [E2], by rw [upd_same, List.map_append]; rfl, ?_⟩
        exact paired_take_snoc (L2.Paired.mapP f3 fun _ _ h => hle _ _ (b1 _ _ h)) hh (hle _ _ b2)
    rintro Ha ⟨g7, ds, g8, g9⟩
    rw [List.length_map, List.take_of_length_le (Nat.le_refl _)] at g9
    have e0a := e09.trans g7
    have ra := g7 _ _ r9
    have lds := paired_len g9
    have la : st.length = rows.length := by rw [← hst, List.length_map]
    refine ⟨rfl, _, rfl, _, rfl, _, rfl, M, R, _, _, rfl, SqL.of g8, SqL.of ra, fun B hB => ?_⟩
    refine lc_it (walk_zip (xs := ds.map V.ref) (ys := rows.map fun h => V.str (SX.S h)) (n := rows.length) (by rw [List.length_map, List.length_map, lds, Nat.min_self])) (fun i Hb => Same Ha Hb ∧ ∃ as : List Addr, Hb B = some (.lst (as.map V.ref)) ∧ Paired (StAtt Hb) as (st.take i)) ?_ ?_ ?_ ?_
    · exact ⟨same_upd (Same.refl Ha) hB, [], upd_same, .nil⟩
    · rintro i Hb _ ⟨f1, _⟩
      exact ⟨SqL.of (f1 _ _ g8), SqL.of (f1 _ _ ra)⟩
    · rintro i y Hb Hc hi ⟨f1, as, f2, f3⟩ ⟨T1, x1, y1, rfl, hT1, rfl, hx1, hy1⟩
      have hx1 : (ds.map V.ref)[i]? = some x1 := hx1
      have hy1 : (rows.map fun h => V.str (SX.S h))[i]? = some y1 := hy1
      rw [List.getElem?_map] at hx1 hy1
      obtain ⟨d, hd, rfl⟩ := Option.map_eq_some_iff.mp hx1
      obtain ⟨h, hh, rfl⟩ := Option.map_eq_some_iff.mp hy1
      obtain ⟨h', hh', hrow⟩ := paired_get g9 hd
      rw [hh] at hh'
      obtain rfl : h = h' := Option.some.inj hh'
      have hp : st[i]? = some (rowMv sg rows h, decide (h ∈ ws)) := by rw [← hst, List.getElem?_map, hh]; rfl
      have e1' := same_upd (o := .tup [.ref d, .str (SX.S h)]) (Same.refl Hb) hT1
      refine ⟨T1, _, rfl, SqT.of upd_same, rfl, _, _, rfl, _, _, rfl, rfl, rfl, _, rfl, _, rfl, _, rfl, ?_⟩
      generalize upd Hb T1 (.tup [.ref d, .str (SX.S h)]) = Hd at e1'
      have wd := e1' _ _ (f1 _ _ (e0a _ _ h1))
      have hin : inV (.str (SX.S h)) (ws.map fun u => V.str (SX.S u)) = decide (h ∈ ws) := by
        have := inV_str (SX.S h) (ws.map SX.S)
        rw [List.map_map] at this
        refine this.trans (decide_eq_decide.mpr ?_)
        rw [List.mem_map]
        exact ⟨fun ⟨u, hu, e⟩ => S_inj.mp e ▸ hu, fun q => ⟨h, q, rfl⟩⟩
      refine ⟨wt, _, rfl, .inr (SqT.of wd), rfl, by rw [List.all_map]; exact List.all_eq_true.mpr fun _ _ => rfl, ?_⟩
      rw [hin, if_neg Bool.false_ne_true]
      refine ⟨by show 2 ≤ sizeLine; decide, fun T2 hT2 => ?_⟩
      have e2' := same_upd (o := .tup [.ref d, .bl (decide (h ∈ ws))]) (Same.refl Hd) hT2
      have k2' : (upd Hd T2 (.tup [.ref d, .bl (decide (h ∈ ws))])) T2 = some (.tup [.ref d, .bl (decide (h ∈ ws))]) := upd_same
      generalize upd Hd T2 (.tup [.ref d, .bl (decide (h ∈ ws))]) = He at e2' k2'
      have f2' := e2' _ _ (e1' _ _ f2)
      have las := paired_len f3
      rw [List.length_take] at las
      have hle : ∀ b o, (∀ l, o ≠ .lst l) → He b = some o → (upd He B (.lst (as.map V.ref ++ [.ref T2]))) b = some o := fun b o ho hb => by
        rw [upd_ne (fun z => by rw [z, f2'] at hb; cases hb; exact ho _ rfl)]; exact hb
      refine ⟨_, f2', by rw [List.length_map, sizeLine_eq]; omega, same_mut ((f1.trans e1').trans e2') hB, as ++ [T2], by rw [upd_same, List.map_append]; rfl, ?_⟩
      refine paired_take_snoc (L2.Paired.mapP f3 fun a p ⟨b, c1, c2⟩ => ?_) hp ?_
      · exact ⟨b, hle _ _ (by intro l z; cases z) (e2' _ _ (e1' _ _ c1)), hle _ _ (by intro l z; cases z) (e2' _ _ (e1' _ _ c2))⟩
      · exact ⟨d, hle _ _ (by intro l z; cases z) k2', hle _ _ (by intro l z; cases z) (e2' _ _ (e1' _ _ (f1 _ _ hrow)))⟩
    rintro Hb ⟨f1, as, f2, f3⟩
    rw [List.take_of_length_le (by omega)] at f3
    refine ⟨B, _, rfl, .inl ⟨SqL.of f2, fun u hu => ?_⟩⟩
    have e6 := same_upd (o := .tup (as.map V.ref)) (Same.refl Hb) hu
    have k6 : (upd Hb u (.tup (as.map V.ref))) u = some (.tup (as.map V.ref)) := upd_same
    generalize upd Hb u (.tup (as.map V.ref)) = Hc at e6 k6
    have s6 : StsT Hc u st := ⟨as, k6, L2.Paired.mapP f3 fun _ _ h => h.le e6⟩
    have e0c := (e0a.trans f1).trans e6
    intro x dx hx hdx hne
    have sm : Same Hc (upd (upd Hc dx (.own x)) x (.ins C dx [])) := fun b o q => by
      rw [upd_ne (ne_of_none q hx), upd_ne (ne_of_none q hdx)]; exact q
    exact ⟨x, dx, u, sg, _, Hc, rfl, upd_same, hne, hx, hdx, sm, s6, sgo, ok, fun H' e' ru => ⟨rfl, k1 x H' (e0c.trans e') (e0c.free hx) ru⟩⟩
end
end Fs
namespace Fs
open PySem PySem.Spec PyProof.Rows L2 SlX RZ
/-! ### draws -/
/-- any number below the total -/
def spTake : Sp := fun vs H Q _ => ∃ (a : Addr) (n : Int), vs = [.ref a, .int n] ∧ Pot H a ∧ 0 < n ∧ n < 1073741824 ∧ ∀ (r : Int) (H' : Hp), 0 ≤ r → r < n → Stp a H H' → Q (.int r) H'
section
variable {P : Program} {w : World} {K : PySem.W.Frag} {mg : Str → Option Value} {base : Heap}
abbrev s_take : Stmt := top 30
theorem sc_take : FnScope ["feed", "total", "found", "one", "two"] ["feed", "total"] (defScope s_take) := ⟨rfl, rfl, rfl, by decide +kernel, rfl, by decide +kernel, by decide +kernel⟩
theorem cal_take (T : Bs mg) (D : Df K mg "_law_take" s_take ["feed", "total"]) : Cal P w K mg base 1 "_law_take" spTake := by
  refine D.cal sc_take (fun vs H Q E h => ?_) (fun f cdv A outer s H vs Q E hr h => ?_)
  · obtain ⟨a, n, rfl, _⟩ := h
    rfl
  · obtain ⟨a, n, rfl, hp, h0, hn, k⟩ := h
    refine ⟨_, pss_cons (ps_if (pt_cmpR op_gt (pe_ix ix_list (pv 0) pe_int (fun _ _ => rfl)) pe_int (nomark _))
        (pss_cons (ps_set (i := 2) sc_take.nd rfl (.inl rfl) (pe_op op_modR (pt call_intI T.z_int (pa_cons (pe_ix ix_list (pv 0) pe_int (fun _ _ => rfl)) pa_nil)) (pv 1)))
        (pss_cons (ps_asg (pe_op op_divR (pe_ix ix_list (pv 0) pe_int (fun _ _ => rfl)) (pv 1)) (pg_sub (pv 0) pe_int set_list))
        (pss_one (ps_ret (pv 2)))))
        pss_nil)
      (pss_cons (ps_asg (pe_op op_add (pe_ix ix_list (pv 0) pe_int (fun _ _ => rfl)) pe_int) (pg_sub (pv 0) pe_int set_list))
      (pss_cons (ps_set (i := 3) sc_take.nd rfl (.inl rfl) (pe_op op_modR (pt call_intI T.z_int (pa_cons (pe_op op_add (pe_ix ix_list (pv 0) pe_int (fun _ _ => rfl)) (pe_op op_mulR pe_int (pe_ix ix_list (pv 0) pe_int (fun _ _ => rfl)))) pa_nil)) pe_int))
      (pss_cons (ps_set (i := 4) sc_take.nd rfl (.inl rfl) (pe_op op_add (pe_op op_mulR (pe_op op_modR (pt call_intI T.z_int (pa_cons (pe_op op_mulR (pv 3) (pv 3)) pa_nil)) pe_int) (pv 3)) (pe_op op_mulR pe_int (pe_ix ix_list (pv 0) pe_int (fun _ _ => rfl)))))
      (pss_one (ps_ret (pe_op op_modR (pt call_intI T.z_int (pa_cons (pe_op op_divR (pe_op op_modR (pt call_intI T.z_int (pa_cons (pv 4) pa_nil)) pe_int) pe_int) pa_nil)) (pv 1))))))), ?_⟩
    obtain ⟨p0, p1, p2, e, g0, g1, g1', g2⟩ := hp.ex
    refine ⟨_, rfl, a, _, 0, .int p0, rfl, rfl, SqL.of e, rfl, _, _, rfl, rfl, _, rfl, ?_⟩
    refine ite2 (fun hc => ?_) (fun hc => ?_)
    · have hc : 0 < p0 := of_decide_eq_true hc
      refine ⟨_, rfl, a, _, 0, .int p0, rfl, rfl, SqL.of e, rfl, _, rfl, ?_⟩
      refine ⟨_, rfl, _, _, rfl, rfl, h0, fun r r0 r1 => ?_⟩
      refine ⟨_, rfl, a, _, 0, .int p0, rfl, rfl, SqL.of e, rfl, ?_⟩
      refine ⟨_, rfl, _, _, rfl, rfl, by omega, h0, hn, fun d d0 d1 => ?_⟩
      refine ⟨_, rfl, a, _, 0, 0, rfl, rfl, e, rfl, ?_⟩
      refine ⟨_, rfl, ?_⟩
      exact k _ _ r0 r1 ⟨⟨_, _, _, upd_same, d0, g1, g1', g2⟩, by rw [hid_upd_self]; exact Same.refl _⟩
    · refine ⟨_, rfl, a, _, 2, .int p2, rfl, rfl, SqL.of e, rfl, _, _, rfl, rfl, ?_⟩
      refine ⟨_, rfl, a, _, 2, 2, rfl, rfl, e, rfl, ?_⟩
      refine ⟨_, rfl, a, _, 1, .int p1, rfl, rfl, SqL.of upd_same, rfl, _, rfl, a, _, 2, .int (p2 + 1), rfl, rfl, SqL.of upd_same, rfl, _, _, rfl, rfl, .inl ⟨by decide, by decide⟩, fun m1 _ => ?_⟩
      refine ⟨_, _, rfl, rfl, _, rfl, _, _, rfl, rfl, by omega, fun o1 o10 o11 => ?_⟩
      refine ⟨_, rfl, _, rfl, _, _, rfl, rfl, .inl ⟨by omega, by omega⟩, fun m3 _ => ?_⟩
      refine ⟨_, rfl, _, _, rfl, rfl, by omega, fun q q0 q1 => ?_⟩
      refine ⟨_, rfl, _, _, rfl, rfl, .inl ⟨by omega, by omega⟩, fun m4 _ => ?_⟩
      refine ⟨_, rfl, a, _, 2, .int (p2 + 1), rfl, rfl, SqL.of upd_same, rfl, _, _, rfl, rfl, .inl ⟨by decide, by decide⟩, fun m5 _ => ?_⟩
      refine ⟨_, _, rfl, rfl, ?_⟩
      refine ⟨_, rfl, _, rfl, _, _, rfl, rfl, by omega, fun r1 r10 r11 => ?_⟩
      refine ⟨_, _, rfl, rfl, r10, by omega, by omega, fun r2 r20 r21 => ?_⟩
      refine ⟨_, rfl, _, rfl, _, _, rfl, rfl, h0, fun r3 r30 r31 => ?_⟩
      exact k _ _ r30 r31 ⟨⟨_, _, _, upd_same, g0, g1, g1', by omega⟩, by rw [hid_upd_self]; exact Same.refl _⟩
abbrev s_pick : Stmt := top 31
theorem sc_pick : FnScope ["feed", "items"] ["feed", "items"] (defScope s_pick) := ⟨rfl, rfl, rfl, by decide +kernel, rfl, by decide +kernel, by decide +kernel⟩
theorem cal_pick (T : Bs mg) (D : Df K mg "_law_pick" s_pick ["feed", "items"]) (C_take : Cal P w K mg base 1 "_law_take" spTake) : Cal P w K mg base 2 "_law_pick" (spChoose K) := by
  refine D.cal sc_pick (fun vs H Q E h => ?_) (fun f cdv A outer s H vs Q E hr h => ?_)
  · obtain ⟨a, x, l, rfl, _⟩ := h
    rfl
  · obtain ⟨a, x, l, rfl, hp, h3, hne, hl, k⟩ := h
    refine ⟨_, pss_one (ps_ret (pe_ix ix_3 (pv 1) (pc C_take hr (pa_cons (pv 0) (pa_cons (pb call_len3 T.z_len (pa_cons (pv 1) pa_nil)) pa_nil))) (fun _ _ => rfl))), ?_⟩
    have hpos : 0 < l.length := List.length_pos_iff.mpr hne
    refine ⟨_, rfl, _, rfl, _, rfl, x, l, rfl, h3.same (hid_le a H), a, (l.length : Int), rfl, hp, by omega, by omega, fun r H' r0 r1 st => ?_⟩
    have hi : r.toNat < l.length := by omega
    exact ⟨l, r, l[r.toNat], rfl, (h3.same st.same).same (hid_le a H'), r0, by simp [hi], k _ _ (List.getElem_mem hi) st⟩
def spFeed (K : PySem.W.Frag) : Sp := fun vs H Q _ => ∃ (p : Addr) (ns : List Int) (i : Int), vs = [.ref p, .int i] ∧ SqL K H p (ns.map V.int) ∧ 0 ≤ i ∧ i < 1000 ∧ ∀ (a : Addr) (H' : Hp), H a = none → Pot H' a → Same H H' → Q (.ref a) H'
abbrev s_feed : Stmt := top 29
theorem sc_feed : FnScope ["script", "at", "cell", "great", "mixed"] ["script", "at"] (defScope s_feed) := ⟨rfl, rfl, rfl, by decide +kernel, rfl, by decide +kernel, by decide +kernel⟩
theorem cal_feed (T : Bs mg) (D : Df K mg "_law_feed" s_feed ["script", "at"]) : Cal P w K mg base 1 "_law_feed" (spFeed K) := by
  refine D.cal sc_feed (fun vs H Q E h => ?_) (fun f cdv A outer s H vs Q E hr h => ?_)
  · obtain ⟨p, ns, i, rfl, _⟩ := h
    rfl
  · obtain ⟨p, ns, i, rfl, hp, hi0, hi1, k⟩ := h
    refine ⟨_, C8.pss_cut (ps_set (i := 2) sc_feed.nd rfl (.inl rfl) (pe_ifExp (pt_cmpR op_lt (pv 1) (pb call_len3 T.z_len (pa_cons (pv 0) pa_nil)) (nomark _)) (pe_ix ix_list (pv 0) (pv 1) (fun _ _ => rfl)) (pe_op op_add (pe_op op_mulR pe_int (pv 1)) pe_int)))
      (pss_cons (ps_set (i := 3) sc_feed.nd rfl (.inl rfl) (pe_op op_modR (pt call_intI T.z_int (pa_cons (pb call_abs T.z_abs (pa_cons (pv 2) pa_nil)) pa_nil)) (pe_op op_powR (pe_op op_powR pe_int pe_int) pe_int)))
      (pss_cons (ps_set (i := 4) sc_feed.nd rfl (.inl rfl) (pe_op op_add (pe_op op_mulR (pe_op op_modR (pt call_intI T.z_int (pa_cons (pv 3) pa_nil)) pe_int) pe_int) (pt call_intB T.z_int (pa_cons (pe_cmpR op_lt (pv 2) pe_int (nomark _)) pa_nil))))
      (pss_one (ps_ret (pe_lst (pa_cons (pb (call_max2 rfl) T.z_max (pa_cons pe_int (pa_cons (pe_op op_sub (pv 3) (pe_op op_powR pe_int pe_int)) pa_nil))) (pa_cons (pe_op op_modR (pt call_intI T.z_int (pa_cons (pe_op op_add (pe_op op_add (pe_op op_mulR (pv 4) pe_int) (pe_op op_mulR pe_int (pv 1))) pe_int) pa_nil)) pe_int) (pa_cons pe_int pa_nil)))))))), ?_⟩
    refine ⟨fun σ' H' => H' = H ∧ ∃ c : Int, σ' = [some (V.ref p), some (.int i), some (.int c), none, none], ?_, ?_⟩
    · refine ⟨_, rfl, _, rfl, _, _, rfl, .inl ⟨p, rfl, .inl hp⟩, _, _, rfl, rfl, _, rfl, ?_⟩
      refine ite2 (fun c => ?_) (fun c => ?_)
      · have c : i < ((ns.map V.int).length : Int) := of_decide_eq_true c
        rw [List.length_map] at c
        have hi : i.toNat < ns.length := by omega
        refine ⟨_, rfl, _, rfl, p, _, i, .int ns[i.toNat], rfl, rfl, hp, atI_of hi0 ?_, rfl, _, rfl⟩
        rw [List.getElem?_map, List.getElem?_eq_getElem hi]; rfl
      · exact ⟨_, rfl, _, _, rfl, rfl, .inl ⟨by decide, by decide⟩, fun r _ => ⟨_, _, rfl, rfl, rfl, _, rfl⟩⟩
    · rintro σ' H' ⟨rfl, c, rfl⟩
      refine ⟨_, rfl, _, rfl, _, rfl, ?_⟩
      refine ⟨_, _, rfl, rfl, by decide +kernel, _, _, rfl, rfl, by decide +kernel, _, _, rfl, rfl, by decide +kernel, fun wh w0 _ => ?_⟩
      refine ⟨_, rfl, _, rfl, _, _, rfl, rfl, by decide, fun q q0 q1 => ⟨_, _, rfl, rfl, .inr ⟨by decide, by decide⟩, fun r1 _ => ?_⟩⟩
      refine ⟨_, rfl, _, _, rfl, rfl, _, rfl, _, _, rfl, rfl, ?_⟩
      refine ⟨_, rfl, _, _, rfl, rfl, by decide +kernel, _, _, rfl, rfl, _, _, rfl, ?_⟩
      refine ⟨_, rfl, _, _, rfl, rfl, .inr ⟨by decide, by decide⟩, fun r2 _ => ⟨_, rfl, _, _, rfl, rfl, .inl ⟨by decide, by decide⟩, fun r3 _ => ?_⟩⟩
      refine ⟨_, _, rfl, rfl, _, _, rfl, rfl, _, rfl, _, _, rfl, rfl, by decide, fun mx m0 m1 => ?_⟩
      refine ⟨by show 3 ≤ sizeLine; decide, fun a ha => ?_⟩
      refine k a _ ha ⟨_, _, _, upd_same, ?_, m0, m1, by omega⟩ (same_upd (Same.refl _) ha)
      split <;> omega
end
end Fs
namespace Fs
open PySem PySem.Spec PyProof.Rows L2 SlX RZ
/-! ### the law's own: drawn states, words, whether a word keeps a rule -/
theorem kRow_merge {sg : List Nat} (nd : sg.Nodup) : ∀ {b a : Row}, ((a ++ b).map (·.1)).Sublist sg → mergeK (kRow a) (kRow b) = kRow (a ++ b)
  | [], a, _ => by rw [List.append_nil]; rfl
  | q :: b, a, h => by
    have e : kRow (a ++ [q]) = putK (kRow a) (.inr ⟨#[q.1]⟩) (.int (q.2 : Nat)) := by
      have hn : q.1 ∉ a.map (·.1) := by
        have := h.nodup nd
        rw [List.map_append, List.map_cons, List.nodup_append] at this
        intro m
        exact this.2.2 _ m _ (List.mem_cons_self ..) rfl
      rw [put_row (sg := a.map (·.1)) (fun kv hk => ?_) hn]
      · unfold kRow
        rw [List.map_append]; rfl
      · obtain ⟨p, hp, rfl⟩ := List.mem_map.mp hk
        exact ⟨p.1, List.mem_map.mpr ⟨p, hp, rfl⟩, rfl⟩
    have h2 : ((a ++ [q] ++ b).map (·.1)).Sublist sg := by rw [List.append_assoc]; exact h
    have ih := kRow_merge nd (b := b) (a := a ++ [q]) h2
    rw [List.append_assoc] at ih
    rw [show mergeK (kRow a) (kRow (q :: b)) = mergeK (putK (kRow a) (.inr ⟨#[q.1]⟩) (.int (q.2 : Nat))) (kRow b) from rfl, ← e, ih]
    rfl
theorem kRow_dict {sg : List Nat} (nd : sg.Nodup) {b : Row} (h : (b.map (·.1)).Sublist sg) : mergeK [] (kRow b) = kRow b := kRow_merge nd (a := []) h
def MvAt (H : Hp) (p : Addr) (q : Nat × Nat) : Prop := H p = some (.tup [S1 q.1, .int (q.2 : Nat)])
theorem mv_kvs {K : PySem.W.Frag} {H : Hp} : ∀ {ps : List Addr} {r : Row}, Paired (MvAt H) ps r → Paired (fun p (kv : Key × V) => SqT K H p [kV kv.1, kv.2]) ps (kRow r)
  | _, _, .nil => .nil
  | _, _, .cons a b => .cons (SqT.of a) (mv_kvs b)
section
variable {P : Program} {w : World} {K : PySem.W.Frag} {mg : Str → Option Value} {base : Heap}
def spLStates : Sp := fun vs H Q _ => ∃ (a : Addr) (sg : List Nat) (m : Nat), vs = [.ref a, .str (SX.S sg), .int (m : Nat)] ∧ Pot H a ∧ SgOk sg ∧ 1 ≤ m ∧ m ≤ 6 ∧ ∀ (t : Addr) (st : Sts) (H' : Hp), st.length ≤ m → StsOk sg st → StsT H' t st → Stp a H H' → Q (.ref t) H'
abbrev s_states : Stmt := top 33
theorem sc_states : FnScope ["feed", "signs", "most", "many", "rows", "at", "moves", "sign"] ["feed", "signs", "most"] (defScope s_states) := ⟨rfl, rfl, rfl, by decide +kernel, rfl, by decide +kernel, by decide +kernel⟩
theorem cal_states (T : Bs mg) (D : Df K mg "_law_states" s_states ["feed", "signs", "most"]) (C_take : Cal P w K mg base 1 "_law_take" spTake) : Cal P w K mg base 2 "_law_states" spLStates := by
  refine D.cal sc_states (fun vs H Q E h => ?_) (fun f cdv A outer s H vs Q E hr h => ?_)
  · obtain ⟨a, sg, m, rfl, _⟩ := h
    rfl
  · obtain ⟨a, sg, m, rfl, hp, sgo, m1, m2, k⟩ := h
    refine ⟨_, pss_cons (ps_asg (pe_tup (pa_cons (pe_op op_add pe_int (pc C_take hr (pa_cons (pv 0) (pa_cons (pv 2) pa_nil)))) (pa_cons (pe_lstN pa_nil) pa_nil))) (pg_tup rfl (pgs_cons (pg_name (i := 3) sc_states.nd rfl (Or.inr rfl)) (pgs_cons (pg_name (i := 4) sc_states.nd rfl (Or.inl rfl)) pgs_nil))))
      (pss_cons (ps_for PassesOwn.never rfl (pi_range1 (by rfl) T.z_range (pa_cons (pv 3) pa_nil)) (pg_name (i := 5) sc_states.nd rfl (Or.inl rfl))
        (pss_cons (ps_setLc (i := 6) (own := [("sign", 7)]) (te := (tTup (tCons (tVar 7) (tCons (tCallS spTake (fun _ => E0) (tCons (tVar 0) (tCons (tVar 3) tNil))) tNil)))) (tt := (tTest (tOp (rI0 fun i j => .bl (decide (j < i))) (tCallS spTake (fun _ => E0) (tCons (tVar 0) (tCons (tC (.int 5)) tNil))) (tC (.int 0))))) rfl sc_states.nd rfl rfl (sw_true rfl rfl rfl (by decide +kernel)) (pi_str (pv 1)) (blkOk_by (N := ["feed", "signs", "most", "many", "rows", "at", "moves", "sign"]) (sc := defScope s_states) (by decide +kernel)) (fun _ _ _ _ _ => (pg_name (i := 7) sc_states.nd rfl (Or.inl rfl))) (fun _ _ _ _ _ => (pts_one (pt_cmpR op_gt (pc C_take hr (pa_cons (pv 0) (pa_cons pe_int pa_nil))) pe_int (nomark _)))) (fun _ _ _ _ _ => (pe_tup (pa_cons (pv 7) (pa_cons (pc C_take hr (pa_cons (pv 0) (pa_cons (pv 3) pa_nil))) pa_nil)))))
        (pss_one (ps_expr (pe_bm PySem.F.plainAttrs_list PySem.F.slot_list_append PySem.F.type_list_append mt_append (pv 4) (pa_cons (pe_tup (pa_cons (pt (call_dictP rfl) T.z_dict (pa_cons (pv 6) pa_nil)) (pa_cons (pe_cmpR op_eq (pc C_take hr (pa_cons (pv 0) (pa_cons pe_int pa_nil))) pe_int (nomark _)) pa_nil))) pa_nil))))))
      (pss_one (ps_ret (pt call_tuple_of T.z_tuple (pa_cons (pv 4) pa_nil))))), ?_⟩
    have nd := sgo.nodup
    have lsg := sgo.len
    refine ⟨_, rfl, _, rfl, a, (m : Nat), rfl, hp, by omega, by omega, fun r H1 r0 r1 st1 => ⟨_, _, rfl, rfl, ?_⟩⟩
    obtain ⟨r', rfl⟩ : ∃ r' : Nat, r = (r' : Nat) := ⟨r.toNat, by omega⟩
    have n1 : 1 ≤ 1 + r' := by omega
    have n2 : 1 + r' ≤ m := by omega
    refine ⟨by show 0 ≤ sizeLine; exact Nat.zero_le _, fun Rw hRw _ => ?_⟩
    refine ⟨by show 2 ≤ sizeLine; decide, fun T0 hT0 => ?_⟩
    refine ⟨T0, _, rfl, SqT.of upd_same, rfl, _, _, rfl, _, _, rfl, rfl, ?_⟩
    dsimp only
    have nRa : Rw ≠ a := st1.pot.ne hRw
    have s2 : Stp a H1 (upd (upd H1 Rw (.lst [])) T0 (.tup [.int (1 + (r' : Int)), .ref Rw])) := ((Stp.refl st1.pot).new hRw).new hT0
    have k2 : (upd (upd H1 Rw (.lst [])) T0 (.tup [.int (1 + (r' : Int)), .ref Rw])) Rw = some (.lst []) := by rw [upd_ne (ne_of_none upd_same hT0)]; exact upd_same
    generalize upd (upd H1 Rw (.lst [])) T0 (.tup [.int (1 + (r' : Int)), .ref Rw]) = H2 at s2 k2
    refine ⟨_, rfl, (1 + r' : Nat), rfl, by omega, by omega, for_range (fun i σ H3 => ∃ (x5 x6 : Option V) (as : List Addr) (st : Sts), σ = [some (.ref a), some (.str (SX.S sg)), some (.int (m : Nat)), some (.int (1 + r' : Nat)), some (.ref Rw), x5, x6, none] ∧ Stp a H1 H3 ∧ H3 Rw = some (.lst (as.map V.ref)) ∧ Paired (StAtt H3) as st ∧ st.length = i ∧ ∀ p ∈ st, RowOk sg (1 + r') p.1) ?_ ?_ ?_⟩
    · exact ⟨none, none, [], [], rfl, s2, k2, .nil, rfl, fun p hp => nomatch hp⟩
    · rintro i σ H3 hi ⟨x5, x6, as, st, rfl, g1, g2, g3, g4, g5⟩
      have hi : i < 1 + r' := hi
      refine ⟨_, rfl, _, rfl, fun L hL => ?_⟩
      have nLa : L ≠ a := g1.pot.ne hL
      refine lc_it walk_str (fun j H4 => ∃ (ps : List Addr) (rw : Row), Stp a H3 H4 ∧ H4 L = some (.lst (ps.map V.ref)) ∧ Paired (MvAt H4) ps rw ∧ (rw.map (·.1)).Sublist (sg.take j) ∧ ∀ q ∈ rw, q.2 < 1 + r') ?_ ?_ ?_ ?_
      · exact ⟨[], [], (Stp.refl g1.pot).new hL, upd_same, .nil, List.Sublist.slnil, fun q hq => nomatch hq⟩
      · exact fun _ _ _ _ => trivial
      · rintro j y H4 H5 hj ⟨ps, rw, f1, f2, f3, f4, f5⟩ ⟨rfl, c, hc, rfl⟩
        have hc' : sg[j]? = some c := by rw [← Array.getElem?_toList] at hc; exact hc
        refine ⟨rfl, _, rfl, a, 5, rfl, f1.pot, by omega, by omega, fun r5 H6 _ _ st6 => ⟨_, _, rfl, rfl, _, rfl, ?_⟩⟩
        have f2' := st6.get f2 nLa
        have f3' : Paired (MvAt H6) ps rw := L2.Paired.mapP f3 fun p q hpq => st6.tle f1.pot _ _ hpq
        have f16 := f1.trans st6
        refine ite2 (fun _ => ?_) (fun _ => ⟨ps, rw, f16, f2', f3', ?_, f5⟩)
        · refine ⟨_, rfl, _, rfl, _, rfl, a, (1 + r' : Nat), rfl, f16.pot, by omega, by omega, fun r7 H7 r70 r71 st7 => ⟨by show 2 ≤ sizeLine; decide, fun p hp => ?_⟩⟩
          obtain ⟨z, rfl⟩ : ∃ z : Nat, r7 = (z : Nat) := ⟨r7.toNat, by omega⟩
          have f17 := f16.trans st7
          have s8 : Stp a H7 (upd H7 p (.tup [S1 c, .int (z : Nat)])) := (Stp.refl f17.pot).new hp
          have k8 : (upd H7 p (.tup [S1 c, .int (z : Nat)])) p = some (.tup [S1 c, .int (z : Nat)]) := upd_same
          have f18 : Stp a H3 (upd H7 p (.tup [S1 c, .int (z : Nat)])) := f17.new hp
          have f28 : (upd H7 p (.tup [S1 c, .int (z : Nat)])) L = some (.lst (ps.map V.ref)) := by rw [upd_ne (ne_of_none (st7.get f2' nLa) hp)]; exact st7.get f2' nLa
          have t8 := s8.tle f17.pot
          have t7 := st7.tle f16.pot
          generalize upd H7 p (.tup [S1 c, .int (z : Nat)]) = H8 at s8 k8 f18 f28 t8
          have lps := paired_len f3
          have lrw := f4.length_le
          rw [List.length_map, List.length_take] at lrw
          have hle : ∀ b xs, H8 b = some (.tup xs) → (upd H8 L (.lst (ps.map V.ref ++ [.ref p]))) b = some (.tup xs) := fun b xs hb => by
            rw [upd_ne (ne_of hb f28 (fun z => by cases z))]; exact hb
          refine ⟨_, f28, by rw [List.length_map, sizeLine_eq]; omega, ps ++ [p], rw ++ [(c, z)], f18.mut hL nLa, by rw [upd_same, List.map_append]; rfl, ?_, ?_, ?_⟩
          · exact paired_snoc (L2.Paired.mapP f3' fun p q hpq => hle _ _ (t8 _ _ (t7 _ _ hpq))) (hle _ _ k8)
          · rw [take_snoc hc', List.map_append]
            exact f4.append (List.Sublist.refl _)
          · intro q hq
            rcases List.mem_append.mp hq with hq | hq
            · exact f5 q hq
            · rw [List.mem_singleton.mp hq]
              show z < 1 + r'
              omega
        · rw [take_snoc hc']
          exact f4.trans (List.sublist_append_left _ _)
      · rintro H4 ⟨ps, rw, f1, f2, f3, f4, f5⟩
        have e9 : sg.take (SX.S sg).cps.size = sg := List.take_of_length_le (Nat.le_of_eq (len_cps (SX.S sg)).symm)
        rw [e9] at f4
        have g2' := f1.get g2 nRa
        refine ⟨_, rfl, .inl ⟨rfl, _, SqL.of g2'⟩, _, rfl, L, ps, kRow rw, rfl, SqL.of f2, mv_kvs f3, fun E hE => ?_⟩
        rw [kRow_dict nd f4]
        have s5 := f1.new hE (o := .dK (kRow rw))
        have k5 : (upd H4 E (.dK (kRow rw))) E = some (.dK (kRow rw)) := upd_same
        have g25 : (upd H4 E (.dK (kRow rw))) Rw = some (.lst (as.map V.ref)) := by rw [upd_ne (ne_of_none g2' hE)]; exact g2'
        have nEa : E ≠ a := f1.pot.ne hE
        generalize upd H4 E (.dK (kRow rw)) = H5 at s5 k5 g25
        refine ⟨_, rfl, a, 2, rfl, s5.pot, by omega, by omega, fun r6 H6 _ _ st6 => ⟨rfl, by show 2 ≤ sizeLine; decide, fun T2 hT2 => ?_⟩⟩
        generalize decide (V.int r6 = V.int 0) = gd
        have t6 := st6.get k5 nEa
        have g26 := st6.get g25 nRa
        have f6 := s5.trans st6
        have s7 : Stp a H3 (upd H6 T2 (.tup [.ref E, .bl gd])) := f6.new hT2
        have k7 : (upd H6 T2 (.tup [.ref E, .bl gd])) T2 = some (.tup [.ref E, .bl gd]) := upd_same
        have e7 := same_upd (o := .tup [.ref E, .bl gd]) (Same.refl H6) hT2
        generalize upd H6 T2 (.tup [.ref E, .bl gd]) = H7 at s7 k7 e7
        have g27 := e7 _ _ g26
        have las := paired_len g3
        have hle : ∀ b o, (∀ l, o ≠ .lst l) → H7 b = some o → (upd H7 Rw (.lst (as.map V.ref ++ [.ref T2]))) b = some o := fun b o ho hb => by
          rw [upd_ne (fun z => by rw [z, g27] at hb; cases hb; exact ho _ rfl)]; exact hb
        have nla : ∀ b o, (∀ l, o ≠ .lst l) → H3 b = some o → b ≠ a := fun b o ho hb z => by
          obtain ⟨_, _, _, e, _⟩ := g1.pot.ex
          rw [z, e] at hb
          cases hb
          exact ho _ rfl
        refine ⟨Rw, _, _, rfl, rfl, g27, by rw [List.length_map, sizeLine_eq]; omega, _, _, as ++ [T2], st ++ [(rw, gd)], rfl, (g1.trans s7).mut hRw nRa, by rw [upd_same, List.map_append]; rfl, ?_, by rw [List.length_append, g4]; rfl, ?_⟩
        · refine paired_snoc (L2.Paired.mapP g3 fun b p ⟨d, c1, c2⟩ => ?_) ?_
          · exact ⟨d, hle _ _ (by intro l z; cases z) (s7.get c1 (nla _ _ (by intro l z; cases z) c1)), hle _ _ (by intro l z; cases z) (s7.get c2 (nla _ _ (by intro l z; cases z) c2))⟩
          · exact ⟨E, hle _ _ (by intro l z; cases z) k7, hle _ _ (by intro l z; cases z) (e7 _ _ t6)⟩
        · intro p hp
          rcases List.mem_append.mp hp with hp | hp
          · exact g5 p hp
          · rw [List.mem_singleton.mp hp]
            exact ⟨f4, f5⟩
    · rintro σ H3 ⟨x5, x6, as, st, rfl, g1, g2, g3, g4, g5⟩
      have g4 : st.length = 1 + r' := g4
      refine ⟨_, rfl, Rw, _, rfl, .inl ⟨SqL.of g2, fun u hu => ?_⟩⟩
      have e6 := same_upd (o := .tup (as.map V.ref)) (Same.refl H3) hu
      have s6 := g1.new hu (o := .tup (as.map V.ref))
      refine k u st _ (by omega) ⟨by omega, by omega, fun p hp => ?_⟩ ⟨as, upd_same, L2.Paired.mapP g3 fun _ _ h => h.le e6⟩ (st1.trans s6)
      rw [g4]
      exact g5 p hp
end
end Fs
namespace Fs
open PySem PySem.Spec PyProof.Rows L2 SlX RZ
theorem StsT.at {H : Hp} {t : Addr} {st : Sts} (h : StsT H t st) : ∃ as : List Addr, H t = some (.tup (as.map V.ref)) ∧ ∀ n, n < st.length → ∃ b d, (as.map V.ref)[n]? = some (.ref b) ∧ H b = some (.tup [.ref d, .bl (st.getD n ([], false)).2]) ∧ RowAt H d (st.getD n ([], false)).1 := by
  obtain ⟨as, h1, h2⟩ := h
  refine ⟨as, h1, fun n hn => ?_⟩
  have ld := paired_len h2
  obtain ⟨p, hp, d, r1, r2⟩ := paired_get h2 (List.getElem?_eq_getElem (by omega : n < as.length))
  refine ⟨as[n], d, by rw [List.getElem?_map, List.getElem?_eq_getElem (by omega : n < as.length)]; rfl, ?_, ?_⟩
  · rw [List.getD_eq_getElem?_getD, hp]; exact r1
  · rw [List.getD_eq_getElem?_getD, hp]; exact r2
section
variable {P : Program} {w : World} {K : PySem.W.Frag} {mg : Str → Option Value} {base : Heap}
def spKeeps : Sp := fun vs H Q _ => ∃ (t : Addr) (sg : List Nat) (st : Sts) (z : Str), vs = [.ref t, .str z] ∧ StsT H t st ∧ RowsOk sg st ∧ 1 ≤ st.length ∧ Q (.bl (keepsL st (cps z) 0)) H
abbrev s_keeps : Stmt := top 34
theorem sc_keeps : FnScope ["states", "word", "at", "sign"] ["states", "word"] (defScope s_keeps) := ⟨rfl, rfl, rfl, by decide +kernel, rfl, by decide +kernel, by decide +kernel⟩
theorem cal_keeps (D : Df K mg "_law_keeps" s_keeps ["states", "word"]) : Cal P w K mg base 1 "_law_keeps" spKeeps := by
  refine D.cal sc_keeps (fun vs H Q E h => ?_) (fun f cdv A outer s H vs Q E hr h => ?_)
  · obtain ⟨t, sg, st, z, rfl, _⟩ := h
    rfl
  · obtain ⟨t, sg, st, z, rfl, h1, ok, pos, k⟩ := h
    refine ⟨_, pss_cons (ps_set (i := 2) sc_keeps.nd rfl (.inl rfl) pe_int)
      (pss_cons (ps_for PassesOwn.never rfl (pi_str (pv 1)) (pg_name (i := 3) sc_keeps.nd rfl (Or.inl rfl))
        (pss_cons (ps_if (pt_cmp (pc_dnotin (hu_of hr.rm) (pv 3) (pe_ix ix_tup (pe_ix ix_tup (pv 0) (pv 2) (fun _ _ => rfl)) pe_int (fun _ _ => rfl))))
          (pss_one (ps_ret pe_bl))
          pss_nil)
        (pss_one (ps_set (i := 2) sc_keeps.nd rfl (.inl rfl) (pe_dget (hu_of hr.rm) (pe_ix ix_tup (pe_ix ix_tup (pv 0) (pv 2) (fun _ _ => rfl)) pe_int (fun _ _ => rfl)) (pv 3) (fun _ _ => rfl))))))
      (pss_one (ps_ret (pe_ix ix_tup (pe_ix ix_tup (pv 0) (pv 2) (fun _ _ => rfl)) pe_int (fun _ _ => rfl))))), ?_⟩
    obtain ⟨as, ht, at_n⟩ := h1.at
    refine ⟨_, rfl, z, rfl, for_it walk_str (fun i σ H1 => ∃ (n : Nat) (x3 : Option V), σ = [some (.ref t), some (.str z), some (.int (n : Nat)), x3] ∧ H1 = H ∧ n < st.length ∧ keepsL st (cps z) 0 = keepsL st ((cps z).drop i) n) ?_ ?_ ?_ ?_⟩
    · exact ⟨0, none, rfl, rfl, pos, rfl⟩
    · exact fun _ _ _ _ _ => trivial
    · rintro i y σ H1 H2 hi ⟨n, x3, rfl, rfl, hn, e⟩ ⟨rfl, c, hc, rfl⟩
      have hc' : (cps z)[i]? = some c := by rw [← Array.getElem?_toList] at hc; exact hc
      have hd : (cps z).drop i = c :: (cps z).drop (i + 1) := by
        obtain ⟨hl, hx⟩ := List.getElem?_eq_some_iff.mp hc'
        rw [← hx]
        exact List.drop_eq_getElem_cons hl
      rw [hd] at e
      obtain ⟨b, d, a1, a2, a3⟩ := at_n n hn
      have g1 := DGet.k (k := .inr ⟨#[c]⟩) a3
      rw [valV_row] at g1
      refine ⟨_, rfl, _, rfl, _, rfl, t, _, _, .ref b, rfl, rfl, SqT.of ht, atI_nat a1, b, _, 0, .ref d, rfl, rfl, SqT.of a2, rfl, d, _, rfl, g1, _, rfl, ?_⟩
      rw [keepsL_cons] at e
      cases q : lk (st.getD n ([], false)).1 c with
      | none =>
        rw [q] at e
        refine iteT ?_
        rw [e] at k
        exact k
      | some n' =>
        rw [q] at e g1
        refine iteF ?_
        have hn' : n' < st.length := by
          have hm := lk_mem q
          rw [List.getD_eq_getElem?_getD, List.getElem?_eq_getElem hn] at hm
          exact (ok _ (List.getElem_mem hn)).lt _ hm
        exact ⟨_, rfl, _, rfl, t, _, _, .ref b, rfl, rfl, SqT.of ht, atI_nat a1, b, _, 0, .ref d, rfl, rfl, SqT.of a2, rfl, _, rfl, d, _, rfl, g1, n', _, rfl, rfl, hn', e⟩
    · rintro σ H1 ⟨n, x3, rfl, rfl, hn, e⟩
      have e9 : (cps z).drop z.cps.size = [] := by
        rw [List.drop_eq_nil_iff]
        exact Nat.le_of_eq (len_cps z).symm
      rw [e9] at e
      obtain ⟨b, d, a1, a2, a3⟩ := at_n n hn
      refine ⟨_, rfl, _, rfl, t, _, _, .ref b, rfl, rfl, SqT.of ht, atI_nat a1, b, _, 1, .bl (st.getD n ([], false)).2, rfl, rfl, SqT.of a2, rfl, ?_⟩
      rw [e] at k
      exact k
/-- all words of at most so many signs -/
def spWords : Sp := fun vs H Q _ => ∃ (sg : List Nat) (m : Nat), vs = [.str (SX.S sg), .int (m : Nat)] ∧ 1 ≤ sg.length ∧ sg.length ≤ 3 ∧ m ≤ 8 ∧
  ∀ (p : Addr) (ws : List Wd) (H' : Hp), Same H H' → H p = none → H' p = some (.lst (ws.map fun u => V.str (SX.S u))) → ws ≠ [] → ws.length ≤ 60000 → (∀ u ∈ ws, u.length ≤ m ∧ ∀ c ∈ u, c ∈ sg) → Q (.ref p) H'
abbrev s_words : Stmt := top 35
theorem sc_words : FnScope ["signs", "most", "found", "level", "turn", "longer", "word", "sign"] ["signs", "most"] (defScope s_words) := ⟨rfl, rfl, rfl, by decide +kernel, rfl, by decide +kernel, by decide +kernel⟩
theorem three_pow {n i : Nat} (h : n ≤ 3 ^ i) (hi : i ≤ 8) : n ≤ 6561 := Nat.le_trans h (Nat.le_trans (Nat.pow_le_pow_right (by omega) hi) (by decide))
theorem cal_words (T : Bs mg) (D : Df K mg "_law_words" s_words ["signs", "most"]) : Cal P w K mg base 1 "_law_words" spWords := by
  refine D.cal sc_words (fun vs H Q E h => ?_) (fun f cdv A outer s H vs Q E hr h => ?_)
  · obtain ⟨sg, m, rfl, _⟩ := h
    rfl
  · obtain ⟨sg, m, rfl, l1, l3, m8, k⟩ := h
    refine ⟨_, pss_cons (ps_par (i := 2) (j := 3) rfl sc_words.nd rfl rfl (by decide) rfl rfl (pa_cons (pe_lstN (pa_cons pe_str pa_nil)) (pa_cons (pe_lstN (pa_cons pe_str pa_nil)) pa_nil)) (by rfl))
      (pss_cons (ps_for PassesOwn.never rfl (pi_range1 (by rfl) T.z_range (pa_cons (pv 1) pa_nil)) (pg_name (i := 4) sc_words.nd rfl (Or.inl rfl))
        (pss_cons (ps_set (i := 5) sc_words.nd rfl (.inl rfl) (pe_lstN pa_nil))
        (pss_cons (ps_for PassesOwn.never rfl (pi_list (pv 3)) (pg_name (i := 6) sc_words.nd rfl (Or.inr rfl))
          (pss_one (ps_set (i := 5) sc_words.nd rfl (.inl rfl) (pe_op op_cat (pv 5) (pe_lc (own := [("sign", 7)]) (te := (tOp rAddS (tVar 6) (tVar 7))) rfl sc_words.nd (pi_str (pv 0)) (blkOk_by (N := ["signs", "most", "found", "level", "turn", "longer", "word", "sign"]) (sc := defScope s_words) (by decide +kernel)) (fun _ _ _ _ _ => (pg_name (i := 7) sc_words.nd rfl (Or.inl rfl))) (fun _ _ _ _ _ => pts_nil) (fun _ _ _ _ _ => (pe_op op_add_str (pv 6) (pv 7))))))))
        (pss_one (ps_par (i := 2) (j := 3) rfl sc_words.nd rfl rfl (by decide) rfl rfl (pa_cons (pe_op op_cat (pv 2) (pv 5)) (pa_cons (pv 5) pa_nil)) (by rfl))))))
      (pss_one (ps_ret (pv 2)))), ?_⟩
    refine ⟨by show 1 ≤ sizeLine; decide, fun F hF _ => ⟨by show 1 ≤ sizeLine; decide, fun L hL _ => ⟨_, _, rfl, ?_⟩⟩⟩
    have e1 := same_upd (o := .lst [.str ""]) (Same.refl H) hF
    have e2 := same_upd (o := .lst [.str ""]) e1 hL
    have kL : (upd (upd H F (.lst [.str ""])) L (.lst [.str ""])) L = some (.lst ([[]].map fun u : Wd => V.str (SX.S u))) := upd_same
    have kF : (upd (upd H F (.lst [.str ""])) L (.lst [.str ""])) F = some (.lst ([[]].map fun u : Wd => V.str (SX.S u))) := by rw [upd_ne (ne_of_none upd_same hL)]; exact upd_same
    generalize upd (upd H F (.lst [.str ""])) L (.lst [.str ""]) = H1 at e2 kL kF
    refine ⟨_, rfl, (m : Nat), rfl, by omega, by omega, for_range (fun i σ H2 => ∃ (F L : Addr) (fs ls : List Wd) (x4 x5 x6 : Option V), σ = [some (.str (SX.S sg)), some (.int (m : Nat)), some (.ref F), some (.ref L), x4, x5, x6, none] ∧ Same H H2 ∧ H F = none ∧ H2 F = some (.lst (fs.map fun u => V.str (SX.S u))) ∧ H2 L = some (.lst (ls.map fun u => V.str (SX.S u))) ∧ fs ≠ [] ∧ ls.length ≤ 3 ^ i ∧ fs.length ≤ (i + 1) * 6561 ∧ (∀ u ∈ fs, u.length ≤ i ∧ ∀ c ∈ u, c ∈ sg) ∧ ∀ u ∈ ls, u.length ≤ i ∧ ∀ c ∈ u, c ∈ sg) ?_ ?_ ?_⟩
    · exact ⟨F, L, [[]], [[]], none, none, none, rfl, e2, hF, kF, kL, List.cons_ne_nil _ _, by decide, by decide, fun u hu => by rw [List.mem_singleton.mp hu]; exact ⟨Nat.zero_le _, fun c hc => nomatch hc⟩, fun u hu => by rw [List.mem_singleton.mp hu]; exact ⟨Nat.zero_le _, fun c hc => nomatch hc⟩⟩
    · rintro i σ H2 hi ⟨F, L, fs, ls, x4, x5, x6, rfl, g1, hF0, g2, g3, g4, g5, g6, g7, g8⟩
      have hi : i < m := hi
      have ll := three_pow g5 (by omega)
      refine ⟨by show 0 ≤ sizeLine; exact Nat.zero_le _, fun G hG _ => ?_⟩
      have e3 := same_upd (o := .lst []) (Same.refl H2) hG
      have k3 : (upd H2 G (.lst [])) G = some (.lst []) := upd_same
      generalize upd H2 G (.lst []) = H3 at e3 k3
      refine ⟨_, rfl, L, rfl, ⟨_, SqL.of (e3 _ _ g3)⟩, for_it (walk_list (xs := ls.map fun u => V.str (SX.S u))) (fun j σ H4 => ∃ (G : Addr) (os : List Wd) (x6 : Option V), σ = [some (.str (SX.S sg)), some (.int (m : Nat)), some (.ref F), some (.ref L), some (.int (0 + (i : Nat))), some (.ref G), x6, none] ∧ Same H3 H4 ∧ H4 G = some (.lst (os.map fun u => V.str (SX.S u))) ∧ os.length ≤ 3 * j ∧ ∀ u ∈ os, u.length ≤ i + 1 ∧ ∀ c ∈ u, c ∈ sg) ?_ ?_ ?_ ?_⟩
      · exact ⟨G, [], x6, rfl, Same.refl _, k3, Nat.zero_le _, fun u hu => nomatch hu⟩
      · rintro j σ H4 _ ⟨G, os, x6, rfl, f1, _⟩
        exact SqL.of (f1 _ _ (e3 _ _ g3))
      · rintro j x σ H4 H5 hj ⟨G, os, x6, rfl, f1, f2, f3, f4⟩ ⟨rfl, hx⟩
        rw [List.getElem?_map] at hx
        obtain ⟨u, hu, rfl⟩ := Option.map_eq_some_iff.mp hx
        obtain ⟨u1, u2⟩ := g8 u (List.mem_of_getElem? hu)
        rw [List.length_map] at hj
        refine ⟨_, rfl, _, rfl, _, rfl, fun N hN => ?_⟩
        refine lc_it walk_str (fun n H6 => Same H5 H6 ∧ H6 N = some (.lst (((sg.take n).map fun c => u ++ [c]).map fun v => V.str (SX.S v)))) ?_ ?_ ?_ ?_
        · exact ⟨same_upd (Same.refl H5) hN, upd_same⟩
        · exact fun _ _ _ _ => trivial
        · rintro n y H6 H7 hn ⟨b1, b2⟩ ⟨rfl, c, hc, rfl⟩
          have hc' : sg[n]? = some c := by rw [← Array.getElem?_toList] at hc; exact hc
          have l1c : (⟨#[c]⟩ : Str).length = 1 := rfl
          refine ⟨rfl, _, rfl, _, rfl, _, _, rfl, rfl, by rw [S_len, l1c, sizeLine_eq]; omega, _, b2, by rw [List.length_map, List.length_map, List.length_take, sizeLine_eq]; omega, same_mut b1 hN, ?_⟩
          rw [upd_same, take_snoc hc', List.map_append, List.map_append]
          show some (HO.lst (_ ++ [V.str (SX.S u ++ SX.S [c])])) = _
          rw [S_add]; rfl
        · rintro H6 ⟨b1, b2⟩
          have e9 : sg.take (SX.S sg).cps.size = sg := List.take_of_length_le (Nat.le_of_eq (len_cps (SX.S sg)).symm)
          rw [e9] at b2
          refine ⟨_, _, _, _, rfl, rfl, b1 _ _ f2, b2, by rw [List.length_map, List.length_map, List.length_map, sizeLine_eq]; omega, fun G2 hG2 => ?_⟩
          refine ⟨G2, os ++ sg.map fun c => u ++ [c], _, rfl, (f1.trans b1).trans (same_upd (Same.refl _) hG2), by rw [upd_same, List.map_append], by rw [List.length_append, List.length_map]; omega, fun v hv => ?_⟩
          rcases List.mem_append.mp hv with hv | hv
          · exact f4 v hv
          · obtain ⟨c, hc, rfl⟩ := List.mem_map.mp hv
            refine ⟨by rw [List.length_append, List.length_singleton]; omega, fun d hd => ?_⟩
            rcases List.mem_append.mp hd with hd | hd
            · exact u2 d hd
            · rw [List.mem_singleton.mp hd]; exact hc
      · rintro σ H4 ⟨G, os, x6, rfl, f1, f2, f3, f4⟩
        rw [List.length_map] at f3
        have f3 : os.length ≤ 3 * ls.length := f3
        have lo : os.length ≤ 3 ^ (i + 1) := by
          rw [Nat.pow_succ]
          omega
        have lo' := three_pow lo (by omega)
        have eH := g1.trans (e3.trans f1)
        refine ⟨_, rfl, _, rfl, _, _, _, _, rfl, rfl, f1 _ _ (e3 _ _ g2), f2, by rw [List.length_map, List.length_map, sizeLine_eq]; omega, fun F2 hF2 => ⟨_, rfl, _, _, rfl, ?_⟩⟩
        refine ⟨F2, G, fs ++ os, os, _, _, _, rfl, same_upd eH hF2, eH.free hF2, by rw [upd_same, List.map_append], by rw [upd_ne (ne_of_none f2 hF2)]; exact f2, fun z => g4 (List.append_eq_nil_iff.mp z).1, lo, by rw [List.length_append]; omega, fun v hv => ?_, f4⟩
        rcases List.mem_append.mp hv with hv | hv
        · obtain ⟨v1, v2⟩ := g7 v hv
          exact ⟨by omega, v2⟩
        · exact f4 v hv
    · rintro σ H2 ⟨F, L, fs, ls, x4, x5, x6, rfl, g1, hF0, g2, g3, g4, g5, g6, g7, g8⟩
      exact ⟨_, rfl, k F fs H2 g1 hF0 g2 g4 (by omega) g7⟩
end
end Fs
namespace Fs
open PySem PySem.Spec PyProof.Rows L2 SlX RZ StX
/-! ### properties and calls of instances, promised -/
structure PrP (P : Program) (w : World) (K : PySem.W.Frag) (mg : Str → Option Value) (base : Heap) (C : Addr) (f : Str) (k : Nat) (sp : Sp) : Prop where
  ex : ∃ p g : Addr, PySem.W.findIn K (.ref C) f = some (some (.ref p)) ∧ PySem.W.specialIn K (.ref p) "__get__" = some (some (.builtin "property.__get__")) ∧ PySem.W.takesIn K (.ref p) = some true ∧ (∃ rest, PySem.W.recIn K p "property" = some (.ref g :: rest)) ∧ FnR P w K mg base CX0 k g sp
structure ClP (P : Program) (w : World) (K : PySem.W.Frag) (mg : Str → Option Value) (base : Heap) (C : Addr) (k : Nat) (sp : Sp) : Prop where
  ex : ∃ g : Addr, CallO K C g ∧ FnR P w K mg base CX0 k g sp
section
variable {X : Cx} {C : Addr} {f : Str} {j k : Nat} {sp : Sp} {e fe : Expr} {es : List Expr} {ta tf : TE} {t : TA} {pos : Pos}
theorem pe_prP (pr : PrP X.prog X.w X.K X.mg X.base C f k sp) (c : SCls X.K C) (hr : Room j X.A) (he : PE X e ta) (hj : k + 1 ≤ j := by decide) (hb : attributeBase e f X.env (eval e X.env) = eval e X.env := by rfl) : PE X (.Attribute e f pos) (tPropSl C sp E0 ta) := by
  obtain ⟨p, g, h1, h2, h3, h4, F⟩ := pr.ex
  exact pe_propSl he c h1 h2 h3 h4 F (hr.mono hj) (fun _ _ _ _ z => z) hb
theorem pe_clP (c : ClP X.prog X.w X.K X.mg X.base C k sp) (hr : Room j X.A) (hf : PE X fe tf) (ha : PA X (e :: es) t) (hj : k ≤ j := by decide)
    (ht : eval (.Call fe (e :: es) [] pos) X.env = (do callWith pos (← eval fe X.env) [] (backTo pos (starEach (e :: es) X.env)) (backToKw pos (keywordEach [] X.env))) := by rfl)
    (he : starEach (e :: es) X.env = (false, eval e X.env) :: starEach es X.env := by rfl) (hpl : (backTo pos (starEach es X.env)).any (·.1) = false := by rfl) : PE X (.Call fe (e :: es) [] pos) (tCallO X C sp E0 tf t) := by
  obtain ⟨g, co, F⟩ := c.ex
  exact pe_callO hf co F (hr.mono hj) pass0 ha ht he hpl
end
theorem dxall_get {H : Hp} : ∀ {vs : List V} {ds : List PyData} {i : Nat} {v : V}, DxAll H vs ds → vs[i]? = some v → ∃ d, d ∈ ds ∧ Dx H v d
  | _, _, i, v, .nil, h => by simp at h
  | _, _, 0, v, .cons a _, h => by
    rw [List.getElem?_cons_zero] at h
    cases h
    exact ⟨_, List.mem_cons_self .., a⟩
  | _, _, i + 1, v, .cons _ b, h => by
    rw [List.getElem?_cons_succ] at h
    obtain ⟨d, hd, x⟩ := dxall_get b h
    exact ⟨d, List.mem_cons_of_mem _ hd, x⟩
def oddsD (sg : List Nat) : List PyData := [.str "?", .str "A", .int 0, .none, .tuple [], .list [.str "a"], .dict [], .str (SX.S sg ++ "-"), .bool true, .tuple [.str "a"]]
theorem low_out {sg : List Nat} (h : SgOk sg) {c : Nat} (hc : c < 97) : c ∉ sg := fun m => by
  have := h.ok
  unfold signsL at this
  simp only [Bool.and_eq_true] at this
  have := List.all_eq_true.mp this.1.2 c m
  simp only [Bool.and_eq_true, decide_eq_true_eq] at this
  omega
theorem odds_out {sg : List Nat} {st : Sts} (h : SgOk sg) : ∀ d ∈ oddsD sg, inRu st sg d = false := by
  have w : ∀ (z : Str) (c : Nat), c ∈ cps z → c < 97 → inRu st sg (.str z) = false := fun z c hz hc => by
    show (wordL (SX.S sg) z && _) = false
    rw [show wordL (SX.S sg) z = false by
      rw [Bool.eq_false_iff]
      intro q
      exact low_out h hc (of_decide_eq_true (List.all_eq_true.mp q c hz)), Bool.false_and]
  intro d hd
  unfold oddsD at hd
  simp only [List.mem_cons, List.not_mem_nil, or_false] at hd
  rcases hd with rfl | rfl | rfl | rfl | rfl | rfl | rfl | rfl | rfl | rfl
  · exact w _ 63 (by decide +kernel) (by omega)
  · exact w _ 65 (by decide +kernel) (by omega)
  · rfl
  · rfl
  · rfl
  · rfl
  · rfl
  · refine w _ 45 ?_ (by omega)
    rw [cps_add]
    exact List.mem_append_right _ (by decide +kernel)
  · rfl
  · rfl
section
variable {P : Program} {w : World} {K : PySem.W.Frag} {mg : Str → Option Value} {base : Heap} {C : Addr}
def spTold (C : Addr) : Sp := fun vs H Q _ => ∃ (x t wl : Addr) (sg : List Nat) (st : Sts) (ws : List Str), vs = [.ref x, .str (SX.S sg), .ref t, .ref wl] ∧ RuAt H x C sg st ∧ StsT H t st ∧ SgOk sg ∧ StsOk sg st ∧ H wl = some (.lst (ws.map V.str)) ∧ (∀ z ∈ ws, TOk z ∧ wordL (SX.S sg) z = true) ∧
  ∀ H', Same H H' → Q (.bl true) H'
abbrev s_is_told : Stmt := top 36
theorem sc_is_told : FnScope ["rule", "signs", "states", "words", "word", "due", "odd", "value"] ["rule", "signs", "states", "words"] (defScope s_is_told) := ⟨rfl, rfl, rfl, by decide +kernel, rfl, by decide +kernel, by decide +kernel⟩
theorem cal_is_told (T : Bs mg) (Z : Rx K mg C) (D : Df K mg "_law_is_told" s_is_told ["rule", "signs", "states", "words"]) (C_keeps : Cal P w K mg base 1 "_law_keeps" spKeeps) (P_signs : PrP P w K mg base C "signs" 1 (spSigns C)) (P_states : PrP P w K mg base C "states" 1 (spSt C))
    (M_len : Mth P w K mg base CX0 C "__len__" 1 (spLen C)) (M_str : Mth P w K mg base CX0 C "__str__" 1 (spStr C)) (M_contains : Mth P w K mg base CX0 C "__contains__" 3 (spCont C)) (CL : ClP P w K mg base C 3 (spCall C)) : Cal P w K mg base 6 "_law_is_told" (spTold C) := by
  refine D.cal sc_is_told (fun vs H Q E h => ?_) (fun f cdv A outer s H vs Q E hr h => ?_)
  · obtain ⟨x, t, wl, sg, st, ws, rfl, _⟩ := h
    rfl
  · obtain ⟨x, t, wl, sg, st, ws, rfl, ru, sst, sgo, ok, hw, hws, k⟩ := h
    refine ⟨_, pss_cons (ps_if (PW.pt (pw_or (pt_cmpR op_ne (pe_prP P_signs Z.sc hr.rm (pv 0)) (pv 1) (nomark _)) (pw_or (pt_cmpR (op_neSts hr.rm.units) (pe_prP P_states Z.sc hr.rm (pv 0)) (pv 2) (nomark _)) (pw_or1 (pt_cmpR op_ne (pb (call_lenM M_len hr) T.z_len (pa_cons (pv 0) pa_nil)) (pb call_len3 T.z_len (pa_cons (pv 2) pa_nil)) (nomark _))))))
        (pss_one (ps_ret pe_bl))
        pss_nil)
      (pss_cons (ps_if (pt_cmpR op_ne (pt (call_strM M_str hr) T.z_str (pa_cons (pv 0) pa_nil)) (pe_op op_add_str (pe_op op_add_str (pe_op op_add_str pe_str (pt call_str_int T.z_str (pa_cons (pb call_len3 T.z_len (pa_cons (pv 2) pa_nil)) pa_nil))) pe_str) (pv 1)) (nomark _))
        (pss_one (ps_ret pe_bl))
        pss_nil)
      (pss_cons (ps_for PassesOwn.never rfl (pi_list (pv 3)) (pg_name (i := 4) sc_is_told.nd rfl (Or.inl rfl))
        (pss_cons (ps_set (i := 5) sc_is_told.nd rfl (.inl rfl) (pc C_keeps hr (pa_cons (pv 2) (pa_cons (pv 4) pa_nil))))
        (pss_one (ps_if (pt_cmpR op_ne (pb (call_reprD hr) T.z_repr (pa_cons (pe_lstN (pa_cons (pe_clP CL hr.rm (pv 0) (pa_cons (pv 4) pa_nil)) (pa_cons (pe_cmpR (op_inM M_contains hr) (pv 4) (pv 0) (by rfl)) pa_nil))) pa_nil)) (pb (call_reprD hr) T.z_repr (pa_cons (pe_lstN (pa_cons (pv 5) (pa_cons (pv 5) pa_nil))) pa_nil)) (nomark _))
          (pss_one (ps_ret pe_bl))
          pss_nil))))
      (pss_cons (ps_set (i := 6) sc_is_told.nd rfl (.inl rfl) (pe_lstN (pa_cons pe_str (pa_cons pe_str (pa_cons pe_int (pa_cons pe_non (pa_cons (pe_tup pa_nil) (pa_cons (pe_lstN (pa_cons pe_str pa_nil)) (pa_cons pe_dnewK (pa_cons (pe_op op_add_str (pv 1) pe_str) (pa_cons pe_bl (pa_cons (pe_tup (pa_cons pe_str pa_nil)) pa_nil))))))))))))
      (pss_one (ps_ret (pe_cmpR (op_eqBls hr.rm.units) (pe_lc (own := [("value", 7)]) (te := (tVar 7)) (tt := (tTest (tOp (rInM C (spCont C) false) (tVar 7) (tVar 0)))) rfl sc_is_told.nd (pi_list (pv 6)) (blkOk_by (N := ["rule", "signs", "states", "words", "word", "due", "odd", "value"]) (sc := defScope s_is_told) (by decide +kernel)) (fun _ _ _ _ _ => (pg_name (i := 7) sc_is_told.nd rfl (Or.inl rfl))) (fun _ _ _ _ _ => (pts_one (pt_cmpR (op_inM M_contains hr) (pv 7) (pv 0) (by rfl)))) (fun _ _ _ _ _ => (pv 7))) (pe_lstN pa_nil) (nomark _))))))), ?_⟩
    have ru' := ru
    obtain ⟨dx, lg, lm, ds, sl, a1, a2, a3⟩ := ru'
    have nd := sgo.nodup
    have lsg := sgo.len
    have most := ok.most
    have ht := sst
    obtain ⟨as, h1, h2⟩ := ht
    have la := paired_len h2
    have lla : ∀ a b : Str, (a ++ b).length = a.length + b.length := fun a b => by rw [len_cps, len_cps, len_cps, cps_add, List.length_append]
    have c1 : ("rule of " : Str).length = 8 := by decide +kernel
    have c2 : (" states for " : Str).length = 12 := by decide +kernel
    have c3 : (toString (st.length : Int) : Str).length ≤ 12 := by
      have : ∀ n : Nat, n ≤ 6 → (toString (n : Int) : Str).length ≤ 12 := by decide +kernel
      exact this _ most
    have c4 : (st.length : Int).natAbs.log2 < 1920 := by
      have : ∀ n : Nat, n ≤ 6 → (n : Int).natAbs.log2 < 1920 := by decide +kernel
      exact this _ most
    have c5 : (SX.S sg).length ≤ 4 := by rw [S_len]; exact lsg.2
    refine ⟨_, rfl, x, dx, _, rfl, sl, x, sg, st, rfl, ru, _, rfl, rfl, _, rfl, ?_⟩
    rw [decide_eq_true (rfl : V.str (SX.S sg) = V.str (SX.S sg))]
    refine iteF ?_
    refine ⟨_, rfl, x, dx, _, rfl, sl, x, sg, st, rfl, ru, most, fun t2 H2 e2 s2 => ⟨_, rfl, t2, t, st, st, sg, rfl, rfl, s2.sts, sst.le e2, nd, fun p hp => (ok.rows p hp).sub, fun p hp => (ok.rows p hp).sub, _, rfl, ?_⟩⟩
    rw [decide_eq_true (rfl : st = st)]
    refine iteF ?_
    have sl2 := slt_mono sl e2
    have ru2 := ru.le e2
    have h1' := e2 _ _ h1
    refine ⟨_, rfl, x, dx, _, rfl, sl2, x, sg, st, rfl, ru2, most, st.length, rfl, by omega, _, rfl, _, _, rfl, Of3.tup h1', rfl, _, rfl, ?_⟩
    rw [List.length_map, la, decide_eq_true (rfl : V.int (st.length : Nat) = V.int (st.length : Nat))]
    refine iteF ?_
    refine ⟨_, rfl, x, dx, _, rfl, sl2, x, sg, st, rfl, ru2, most, lsg.2, _, rfl, _, rfl, _, _, rfl, Of3.tup h1', ?_⟩
    rw [List.length_map, la]
    refine ⟨_, rfl, c4, _, _, rfl, rfl, by rw [sizeLine_eq]; omega, _, _, rfl, rfl, by rw [lla, sizeLine_eq]; omega, _, rfl, _, _, rfl, rfl, by rw [lla, lla, sizeLine_eq]; omega, rfl, _, rfl, ?_⟩
    have hd : decide (V.str (ruText st.length sg) = V.str (((("rule of " : Str) ++ (toString (st.length : Int) : Str)) ++ (" states for " : Str)) ++ SX.S sg)) = true := decide_eq_true rfl
    rw [hd]
    refine iteF ?_
    have hw2 := e2 _ _ hw
    refine ⟨_, rfl, wl, rfl, ⟨_, SqL.of hw2⟩, for_it (walk_list (xs := ws.map V.str)) (fun i σ H3 => ∃ (x4 x5 : Option V), σ = [some (.ref x), some (.str (SX.S sg)), some (.ref t), some (.ref wl), x4, x5, none, none] ∧ Same H2 H3) ?_ ?_ ?_ ?_⟩
    · exact ⟨none, none, rfl, Same.refl _⟩
    · rintro i σ H3 _ ⟨x4, x5, rfl, g1⟩
      exact SqL.of (g1 _ _ hw2)
    · rintro i y σ H3 H4 hi ⟨x4, x5, rfl, g1⟩ ⟨rfl, hx⟩
      rw [List.getElem?_map] at hx
      obtain ⟨z, hz, rfl⟩ := Option.map_eq_some_iff.mp hx
      obtain ⟨tz, wz⟩ := hws z (List.mem_of_getElem? hz)
      have e4 := e2.trans g1
      refine ⟨_, rfl, _, rfl, t, sg, st, z, rfl, sst.le e4, ok.rows, ok.pos, ?_⟩
      refine ⟨_, rfl, x, rfl, _, rfl, .inl ⟨dx, _, slt_mono sl e4⟩, x, sg, st, z, rfl, ru.le e4, ok, tz, wz, fun H5 e5 => ?_⟩
      have e45 := e4.trans e5
      refine ⟨_, rfl, _, rfl, x, dx, _, rfl, slt_mono sl e45, x, sg, st, _, _, rfl, ru.le e45, ok, .str z tz, fun H6 e6 => ⟨_, rfl, ?_⟩⟩
      rw [show inRu st sg (.str z) = keepsL st (cps z) 0 by show (wordL (SX.S sg) z && _) = _; rw [wz, Bool.true_and]]
      generalize keepsL st (cps z) 0 = b
      have fit : Fit 100000 30 (.list [.bool b, .bool b]) := ⟨by simp [PyData.weight, PyData.weightAll], by simp [PyData.depth, PyData.depthAll]⟩
      refine ⟨by show 2 ≤ sizeLine; decide, fun L1 hL1 n1 => ⟨L1, .list [.bool b, .bool b], rfl, .lst upd_same n1 (.cons (.bl b) (.cons (.bl b) .nil)), fit, ?_⟩⟩
      have e7 := same_upd (o := .lst [.bl b, .bl b]) (e5.trans e6) hL1
      refine ⟨_, rfl, _, rfl, by show 2 ≤ sizeLine; decide, fun L2 hL2 n2 => ⟨L2, .list [.bool b, .bool b], rfl, .lst upd_same n2 (.cons (.bl b) (.cons (.bl b) .nil)), fit, rfl, _, rfl, ?_⟩⟩
      rw [decide_eq_true (rfl : V.str (PyData.list [.bool b, .bool b]).shown = V.str (PyData.list [.bool b, .bool b]).shown)]
      exact iteF ⟨_, _, rfl, g1.trans (same_upd e7 hL2)⟩
    · rintro σ H3 ⟨x4, x5, rfl, g1⟩
      have e3 := e2.trans g1
      refine ⟨by show 0 ≤ sizeLine; exact Nat.zero_le _, fun T1 hT1 => ?_⟩
      refine ⟨by show 1 ≤ sizeLine; decide, fun T2 hT2 n2 => ?_⟩
      refine fun T3 hT3 => ?_
      have c6 : ("-" : Str).length = 1 := by decide +kernel
      refine ⟨_, rfl, _, _, rfl, rfl, by rw [c6, sizeLine_eq]; omega, ?_⟩
      refine ⟨by show 1 ≤ sizeLine; decide, fun T4 hT4 => ?_⟩
      refine ⟨by show 10 ≤ sizeLine; decide, fun Lo hLo _ => ?_⟩
      have s1 := same_upd (o := .tup []) (Same.refl H3) hT1
      have k1 : (upd H3 T1 (.tup [])) T1 = some (.tup []) := upd_same
      generalize upd H3 T1 (.tup []) = H4 at hT2 hT3 hT4 hLo s1 k1 ⊢
      have s2 := same_upd (o := .lst [.str "a"]) (Same.refl H4) hT2
      have k2 : (upd H4 T2 (.lst [.str "a"])) T2 = some (.lst [.str "a"]) := upd_same
      generalize upd H4 T2 (.lst [.str "a"]) = H5 at hT3 hT4 hLo s2 k2 ⊢
      have s3 := same_upd (o := .dK []) (Same.refl H5) hT3
      have k3 : (upd H5 T3 (.dK [])) T3 = some (.dK []) := upd_same
      generalize upd H5 T3 (.dK []) = H6 at hT4 hLo s3 k3 ⊢
      have s4 := same_upd (o := .tup [.str "a"]) (Same.refl H6) hT4
      have k4 : (upd H6 T4 (.tup [.str "a"])) T4 = some (.tup [.str "a"]) := upd_same
      generalize upd H6 T4 (.tup [.str "a"]) = H7 at hLo s4 k4 ⊢
      have t1 : ∀ z : Str, z.length ≤ 10 → (∀ c ∈ cps z, c < 200) → TOk z := fun z h1 h2 => ⟨by omega, fun c hc => by have := h2 c hc; rw [pow16]; omega⟩
      have da : TOk "a" := t1 _ (by decide +kernel) (by decide +kernel)
      have dd : DxAll H7 [.str "?", .str "A", .int 0, .non, .ref T1, .ref T2, .ref T3, .str (SX.S sg ++ "-"), .bl true, .ref T4] (oddsD sg) := by
        refine .cons (.str _ (t1 _ (by decide +kernel) (by decide +kernel))) (.cons (.str _ (t1 _ (by decide +kernel) (by decide +kernel))) (.cons (.int 0 (by decide +kernel) (by decide +kernel)) (.cons .non (.cons (.tup (s4 _ _ (s3 _ _ (s2 _ _ k1))) .nil) (.cons (.lst (s4 _ _ (s3 _ _ k2)) n2 (.cons (.str _ da) .nil)) (.cons (.dct (s4 _ _ k3) .nil) (.cons (.str _ (t1 _ (by rw [lla, c6]; omega) (fun c hc => ?_))) (.cons (.bl true) (.cons (.tup k4 (.cons (.str _ da) .nil)) .nil)))))))))
        rw [cps_add] at hc
        rcases List.mem_append.mp hc with hc | hc
        · have hc : c ∈ sg := hc
          have := sgo.ok
          unfold signsL at this
          simp only [Bool.and_eq_true] at this
          have := List.all_eq_true.mp this.1.2 c hc
          simp only [Bool.and_eq_true, decide_eq_true_eq] at this
          omega
        · have : ∀ c ∈ cps ("-" : Str), c < 200 := by decide +kernel
          exact this c hc
      generalize hvs : [V.str "?", .str "A", .int 0, .non, .ref T1, .ref T2, .ref T3, .str (SX.S sg ++ "-"), .bl true, .ref T4] = odds at dd
      have s5 := same_upd (o := .lst odds) (Same.refl H7) hLo
      have k5 : (upd H7 Lo (.lst odds)) Lo = some (.lst odds) := upd_same
      have e8 := ((((e3.trans s1).trans s2).trans s3).trans s4).trans s5
      have dd8 := DxAll.le s5 dd
      dsimp only
      generalize upd H7 Lo (.lst odds) = H8 at k5 e8 dd8 ⊢
      refine ⟨_, rfl, Lo, rfl, ⟨_, SqL.of k5⟩, fun D hD => ?_⟩
      refine lc_it (walk_list (xs := odds)) (fun _ H9 => Same H8 H9 ∧ H9 D = some (.lst [])) ?_ ?_ ?_ ?_
      · exact ⟨same_upd (Same.refl H8) hD, upd_same⟩
      · rintro i H9 _ ⟨f1, _⟩
        exact SqL.of (f1 _ _ k5)
      · rintro i v H9 Ha _ ⟨f1, f2⟩ ⟨rfl, hv⟩
        obtain ⟨d, hd, xd⟩ := dxall_get dd8 hv
        have e9 := e8.trans f1
        refine ⟨rfl, _, rfl, _, rfl, x, dx, _, rfl, slt_mono sl e9, x, sg, st, v, d, rfl, ru.le e9, ok, xd.le f1, fun Hb eb => ⟨_, rfl, ?_⟩⟩
        rw [odds_out sgo d hd]
        exact ⟨_, rfl, iteF ⟨f1.trans eb, eb _ _ f2⟩⟩
      · rintro H9 ⟨f1, f2⟩
        refine ⟨by show 0 ≤ sizeLine; exact Nat.zero_le _, fun E2 hE2 _ => ?_⟩
        have s9 := same_upd (o := .lst []) (Same.refl H9) hE2
        refine ⟨D, E2, [], [], rfl, rfl, s9 _ _ f2, upd_same, ?_⟩
        rw [decide_eq_true (rfl : ([] : List Bool) = [])]
        exact k _ ((e8.trans f1).trans s9)
end
end Fs
namespace Fs
open PySem PySem.Spec PyProof.Rows L2 SlX RZ StX
/-! ### != of an instance and a thing of another class -/
section
variable {prog : Program} {w : World} {A : Around} {E : Value → Shared → Prop} {s : Shared} {K : PySem.W.Frag} {x C : Addr} {ox : Obj} {od : Option Obj} {b tb : Value}
theorem ne_other {Q : Value → Shared → Prop} (hu : A.units < cLine) (X : K.In s.heap) (I : PySem.W.InstAt s.heap x ox C od) (hb : PySem.W.Looks (model prog w) s.heap (typeOf b) tb) (hn : PySem.W.notFirst K C tb = true)
    (one : wpAny (model prog w) A (tryCompare (.ref x) "__ne__" b) (fun r s' => ∃ v, r = some v ∧ Q v s') E s) : wpAny (model prog w) A (richCompare .NotEq (.ref x) b) Q E s := by
  unfold richCompare
  simp only [oneThing_ref]
  refine wpAny_holding (wpAny_bind (wpAny_cRoomFor hu ?_))
  refine wpAny_bind (I.type.here (wpAny_bind (hb.here ?_)))
  split
  · rename_i q
    have e : PySem.W.subIn K tb (.ref C) = some false := by
      rcases Bool.or_eq_true_iff.mp hn with e | e
      · rw [beq_iff_eq.mp e] at q; simp at q
      · exact beq_iff_eq.mp e
    refine wpAny_bind ((PySem.W.looks_subIn X e).here ?_)
    simp only [Bool.false_eq_true, if_false]
    refine wpAny_bind (wpAny_mono one (fun r s' z => ?_) fun _ _ e => e)
    obtain ⟨v, rfl, hq⟩ := z
    exact wpAny_pure hq
  · refine wpAny_bind (wpAny_pure ?_)
    simp only [Bool.false_eq_true, if_false]
    refine wpAny_bind (wpAny_mono one (fun r s' z => ?_) fun _ _ e => e)
    obtain ⟨v, rfl, hq⟩ := z
    exact wpAny_pure hq
end
def rNeO (K : PySem.W.Frag) (C : Addr) (sp : Sp) : R2 := fun x y H Q => ∃ (a dx b : Addr) (vs : List (Option V)) (t : Value), x = .ref a ∧ y = .ref b ∧ Slt H a C dx vs ∧ TyX K H y t ∧ PySem.W.notFirst K C t = true ∧ sp [x, y] H (fun v H' => ∃ r, v = .bl r ∧ Q (.bl (!r)) H') E0
section
variable {X : Cx} {k j : Nat} {C : Addr} {sp : Sp}
theorem op_neO (M : Mth X.prog X.w X.K X.mg X.base CX0 C "__eq__" k sp) (N : NeF X.K C) (hr : Rm j X.A) (hk : k + 1 ≤ j := by decide) : OpR X (compareOp .NotEq) (rNeO X.K C sp) := by
  intro pins s σ H x y v u Q I rx ry h
  obtain ⟨a, dx, b, vs, t, rfl, rfl, sa, ty, hnf, q⟩ := h
  cases (show v = Value.ref a from rx)
  cases (show u = Value.ref b from ry)
  obtain ⟨_, sl', _, e1, _⟩ := slt_at I sa
  obtain ⟨slI, odI, _, J, _⟩ := slt_inst I sa
  obtain ⟨_, Z, p, _⟩ := kit_of I (show RelV (V.ref b) (Value.ref b) from rfl) ty
  have hb : PySem.W.Looks (model X.prog X.w) s.heap (typeOf (.ref b)) t := Z.ty _ _ I.kIn p
  obtain ⟨nm, qn, Nn, bs, hdct, sn, sub, ab, col, dd, k0, k1, k2, k3, k5, newId, g', hC, hN, he, hne, ⟨og, hg, hgc⟩, hf⟩ := N.ex
  obtain ⟨g, fd, ps, h1, h2, h3, bb, F⟩ := M.ex
  have eg : g' = g := by
    rw [hf] at h1
    injection h1 with h1
    injection h1 with h1
    injection h1
  subst eg
  have X0 := I.kIn
  have hns : s.heap.Ns Nn (s.heap.nsMap Nn) := .of_isNs (PySem.W.isNs_of_in X0 hN)
  obtain ⟨yB, hyB⟩ := obj_eq
  have Y : s.heap.OwnEqNoNe a C g' "object" [.type "object"] := ⟨_, og, nm, qn, Nn, bs, hdct, sn, sub, ab, col, dd, k0, k1, k2, k3, k5, newId, s.heap.nsMap Nn, _, e1, rfl, X0 _ _ hC, hns, ns_of X0 hns he, X0 _ _ hg, hgc, PySem.F.mro_object, hyB, PySem.W.nsMap_none_of_in X0 hN hne⟩
  obtain ⟨hh, gg, d, tt, os⟩ := s
  have room := hr.rm.mono hk
  show wpAny _ _ (richCompare .NotEq _ _) _ _ _
  refine ne_other (Nat.lt_of_succ_lt (hu_of hr.rm)) X0 J hb hnf ?_
  refine tryCompare_ne_ownEq PySem.F.cmp_object Y (hu_of hr.rm) ?_
  refine wpAny_mono (run_gA (us := [.ref a, .ref b]) (vs := [.ref a, .ref b]) F room.in1 hr.gd I.env0.in1 bb passAt0 I (.cons rfl (.cons rfl .nil)) q) (fun r s' z => ?_) fun _ _ x => x
  obtain ⟨z', H', I', rz, r', rfl, qz⟩ := z
  cases rz
  exact ⟨r', rfl, _, rfl, .bl (!r'), H', I', rfl, qz⟩
end
end Fs
namespace Fs
open PySem PySem.Spec PyProof.Rows L2 SlX RZ StX
/-! ### the law's own: two rules that are met -/
section
variable {κ : Type} [DecidableEq κ]
theorem ixOf_app {ks l : List κ} {k : κ} (h : k ∈ ks) : ixOf (ks ++ l) k = ixOf ks k := by
  unfold ixOf
  rw [List.idxOf_append, if_pos h]
theorem addAll_le : ∀ (xs ks : List κ), (addAll ks xs).length ≤ ks.length + xs.length
  | [], ks => Nat.le_refl _
  | x :: xs, ks => by
    have h2 := addAll_le xs (addK ks x)
    have h3 : (addK ks x).length ≤ ks.length + 1 := by unfold addK; split <;> simp
    show (addAll (addK ks x) xs).length ≤ _
    rw [List.length_cons]; omega
theorem addAll_app (ks xs : List κ) : ∃ l, addAll ks xs = ks ++ l := addAll_pre ks
end
/-- the states of places that are done do not change when keys come -/
def metSt (sg : List Nat) (s1 s2 : Sts) (ks : List Key2) (k : Key2) : Row × Bool := (rowOf sg s1 s2 ks k, goodAt s1 k.1 && goodAt s2 k.2)
theorem metSt_app {sg : List Nat} {s1 s2 : Sts} {ks l : List Key2} {k : Key2} (h : ∀ x ∈ (metNx sg s1 s2 k).map (·.2), x ∈ ks) : metSt sg s1 s2 (ks ++ l) k = metSt sg s1 s2 ks k := by
  unfold metSt rowOf
  congr 1
  refine List.map_congr_left fun p hp => ?_
  rw [ixOf_app (h _ (List.mem_map.mpr ⟨p, hp, rfl⟩))]
theorem metSts_app {sg : List Nat} {s1 s2 : Sts} {ks l : List Key2} {n : Nat} (hn : n ≤ ks.length) (h : ∀ j k, j < n → ks[j]? = some k → ∀ x ∈ (metNx sg s1 s2 k).map (·.2), x ∈ ks) : ((ks ++ l).take n).map (metSt sg s1 s2 (ks ++ l)) = (ks.take n).map (metSt sg s1 s2 ks) := by
  rw [List.take_append_of_le_length hn]
  refine List.map_congr_left fun k hk => ?_
  obtain ⟨j, hj⟩ := List.getElem?_of_mem hk
  rw [List.getElem?_take] at hj
  split at hj
  · rename_i c
    exact metSt_app (h j k c hj)
  · cases hj
section
variable {P : Program} {w : World} {K : PySem.W.Frag} {mg : Str → Option Value} {base : Heap}
def spLMet : Sp := fun vs H Q _ => ∃ (t1 t2 : Addr) (sg : List Nat) (s1 s2 : Sts), vs = [.str (SX.S sg), .ref t1, .ref t2] ∧ StsT H t1 s1 ∧ StsT H t2 s2 ∧ RowsOk sg s1 ∧ RowsOk sg s2 ∧ 1 ≤ s1.length ∧ 1 ≤ s2.length ∧ s1.length ≤ 30 ∧ s2.length ≤ 30 ∧ SgOk sg ∧
  ∀ (t : Addr) (H' : Hp), Same H H' → StsT H' t (met sg s1 s2) → Q (.ref t) H'
abbrev s_met : Stmt := top 37
theorem sc_met : FnScope ["signs", "one", "other", "keys", "rows", "at", "moves", "sign", "two"] ["signs", "one", "other"] (defScope s_met) := ⟨rfl, rfl, rfl, by decide +kernel, rfl, by decide +kernel, by decide +kernel⟩
theorem cal_met (T : Bs mg) (D : Df K mg "_law_met" s_met ["signs", "one", "other"]) : Cal P w K mg base 1 "_law_met" spLMet := by
  refine D.cal sc_met (fun vs H Q E h => ?_) (fun f cdv A outer s H vs Q E hr h => ?_)
  · obtain ⟨t1, t2, sg, s1, s2, rfl, _⟩ := h
    rfl
  · obtain ⟨t1, t2, sg, s1, s2, rfl, ss1, ss2, ro1, ro2, p1, p2, m1, m2, sgo, k⟩ := h
    refine ⟨_, pss_cons (ps_par3 (i := 3) (j := 4) (l := 5) rfl sc_met.nd rfl rfl rfl (by decide) (by decide) (by decide) rfl rfl rfl (pa_cons (pe_lstN (pa_cons (pe_tup (pa_cons pe_int (pa_cons pe_int pa_nil))) pa_nil)) (pa_cons (pe_lstN pa_nil) (pa_cons pe_int pa_nil))) (by rfl))
      (pss_cons (ps_while PassesOwn.never (pt_cmpR op_lt (pv 5) (pb call_len3 T.z_len (pa_cons (pv 3) pa_nil)) (nomark _))
        (pss_cons (ps_set (i := 6) sc_met.nd rfl (.inl rfl) (pe_lstN pa_nil))
        (pss_cons (ps_for PassesOwn.never rfl (pi_str (pv 0)) (pg_name (i := 7) sc_met.nd rfl (Or.inl rfl))
          (pss_cons (ps_set (i := 8) sc_met.nd rfl (.inl rfl) (pe_tup (pa_cons (pe_dget2 (hu_of hr.rm) (pe_ix ix_tup (pe_ix ix_tup (pv 1) (pe_ix ix_tup (pe_ix ix_list (pv 3) (pv 5) (fun _ _ => rfl)) pe_int (fun _ _ => rfl)) (fun _ _ => rfl)) pe_int (fun _ _ => rfl)) (pv 7) pe_non ⟨rfl, rfl, rfl, rfl⟩) (pa_cons (pe_dget2 (hu_of hr.rm) (pe_ix ix_tup (pe_ix ix_tup (pv 2) (pe_ix ix_tup (pe_ix ix_list (pv 3) (pv 5) (fun _ _ => rfl)) pe_int (fun _ _ => rfl)) (fun _ _ => rfl)) pe_int (fun _ _ => rfl)) (pv 7) pe_non ⟨rfl, rfl, rfl, rfl⟩) pa_nil))))
          (pss_one (ps_if (pt_cmpR op_notIn_seq pe_non (pv 8) (by rfl))
            (pss_cons (ps_set (i := 3) sc_met.nd rfl (.inl rfl) (pe_op op_cat (pv 3) (pe_op op_rep (pe_lstN (pa_cons (pv 8) pa_nil)) (pt call_intB T.z_int (pa_cons (pe_cmpR (op_notInD (hu65 hr.rm)) (pv 8) (pv 3) (by rfl)) pa_nil)))))
            (pss_one (ps_expr (pe_bm PySem.F.plainAttrs_list PySem.F.slot_list_append PySem.F.type_list_append mt_append (pv 6) (pa_cons (pe_tup (pa_cons (pv 7) (pa_cons (pe_bm PySem.F.plainAttrs_list PySem.F.slot_list_index PySem.F.type_list_index (mt_indexD (hu65 hr.rm)) (pv 3) (pa_cons (pv 8) pa_nil)) pa_nil))) pa_nil)))))
            pss_nil))))
        (pss_cons (ps_expr (pe_bm PySem.F.plainAttrs_list PySem.F.slot_list_append PySem.F.type_list_append mt_append (pv 4) (pa_cons (pe_tup (pa_cons (pt (call_dictP rfl) T.z_dict (pa_cons (pv 6) pa_nil)) (pa_cons (pe_and (pe_ix ix_tup (pe_ix ix_tup (pv 1) (pe_ix ix_tup (pe_ix ix_list (pv 3) (pv 5) (fun _ _ => rfl)) pe_int (fun _ _ => rfl)) (fun _ _ => rfl)) pe_int (fun _ _ => rfl)) (pe_one (pe_ix ix_tup (pe_ix ix_tup (pv 2) (pe_ix ix_tup (pe_ix ix_list (pv 3) (pv 5) (fun _ _ => rfl)) pe_int (fun _ _ => rfl)) (fun _ _ => rfl)) pe_int (fun _ _ => rfl)))) pa_nil))) pa_nil)))
        (pss_one (ps_set (i := 5) sc_met.nd rfl (.inl rfl) (pe_op op_add (pv 5) pe_int)))))))
      (pss_one (ps_ret (pt call_tuple_of T.z_tuple (pa_cons (pv 4) pa_nil))))), ?_⟩
    have nd := sgo.nodup
    have lsg := sgo.len.2
    have hUl : (pairsU s1 s2).length ≤ 900 := by rw [pairsU_len]; exact Nat.mul_le_mul m1 m2
    have hU := metNx_U ro1 ro2
    generalize hUe : pairsU s1 s2 = U at hUl hU
    have memU : ∀ k : Key2, k ∈ U → k.1 < s1.length ∧ k.2 < s2.length := fun k hk => by rw [← hUe] at hk; exact mem_pairsU.mp hk
    have hR : metKs sg s1 s2 = bfs (fun k => (metNx sg s1 s2 k).map (·.2)) U.length [(0, 0)] 0 := by rw [← hUe]; rfl
    have hst : ((0, 0) : Key2) ∈ U := by rw [← hUe]; exact mem_pairsU.mpr ⟨p1, p2⟩
    obtain ⟨as1, ht1, at1⟩ := ss1.at
    obtain ⟨as2, ht2, at2⟩ := ss2.at
    refine ⟨by show 2 ≤ sizeLine; decide, fun T0 hT0 => ⟨by show 1 ≤ sizeLine; decide, fun Kl hKl _ => ⟨by show 0 ≤ sizeLine; exact Nat.zero_le _, fun Rl hRl _ => ⟨_, _, _, rfl, ?_⟩⟩⟩⟩
    have e1 := same_upd (o := .tup [.int 0, .int 0]) (Same.refl H) hT0
    have kT0 : (upd H T0 (.tup [.int 0, .int 0])) T0 = some (.tup [.int 0, .int 0]) := upd_same
    generalize upd H T0 (.tup [.int 0, .int 0]) = H1 at e1 kT0 hKl hRl ⊢
    have e2 := same_upd (o := .lst [.ref T0]) e1 hKl
    have kT1 : (upd H1 Kl (.lst [.ref T0])) T0 = some (.tup [.int 0, .int 0]) := by rw [upd_ne (ne_of_none kT0 hKl)]; exact kT0
    have kK1 : (upd H1 Kl (.lst [.ref T0])) Kl = some (.lst [.ref T0]) := upd_same
    generalize upd H1 Kl (.lst [.ref T0]) = H2 at e2 kT1 kK1 hRl ⊢
    have e3 := same_upd (o := .lst []) (Same.refl H2) hRl
    have kR3 : (upd H2 Rl (.lst [])) Rl = some (.lst []) := upd_same
    have nRl : H Rl = none := e2.free hRl
    generalize upd H2 Rl (.lst []) = H3 at e3 kR3 ⊢
    refine ⟨fun m σ H4 => ∃ (n : Nat) (x6 x7 x8 : Option V) (Kl : Addr) (as bs : List Addr) (ks : List Key2), m = U.length - n ∧ σ = [some (.str (SX.S sg)), some (.ref t1), some (.ref t2), some (.ref Kl), some (.ref Rl), some (.int (n : Nat)), x6, x7, x8] ∧ Same H H4 ∧ H4 Kl = some (.lst (as.map V.ref)) ∧ Paired (PtAt H4) as ks ∧
      At (fun k => (metNx sg s1 s2 k).map (·.2)) U (metKs sg s1 s2) ks n ∧ H4 Rl = some (.lst (bs.map V.ref)) ∧ Paired (StAtt H4) bs ((ks.take n).map (metSt sg s1 s2 ks)), ⟨U.length - 0, 0, none, none, none, Kl, [T0], [], [(0, 0)], rfl, rfl, e2.trans e3, e3 _ _ kK1, .cons (e3 _ _ kT1) .nil, by rw [hR]; exact At.start hst, kR3, .nil⟩, ?_⟩
    clear kK1 kT1 hKl hRl kT0 hT0
    rintro m σ H4 ⟨n, x6, x7, x8, Kl, as, bs, ks, rfl, rfl, g1, g2, g3, a, g4, g5⟩
    have la := paired_len g3
    have lks := nodup_len a.nd a.sub
    refine ⟨_, rfl, _, rfl, _, _, rfl, Of3.lst g2, _, _, rfl, rfl, _, rfl, ?_⟩
    rw [List.length_map, la]
    by_cases c : n < ks.length
    · rw [decide_eq_true (show ((n : Nat) : Int) < (ks.length : Nat) by omega)]
      refine iteT ⟨fun σ' H' => ∃ (x6 x7 x8 : Option V) (Kl : Addr) (as bs : List Addr) (ks' : List Key2), σ' = [some (.str (SX.S sg)), some (.ref t1), some (.ref t2), some (.ref Kl), some (.ref Rl), some (.int ((n + 1 : Nat) : Int)), x6, x7, x8] ∧ Same H H' ∧ H' Kl = some (.lst (as.map V.ref)) ∧ Paired (PtAt H') as ks' ∧
        At (fun k => (metNx sg s1 s2 k).map (·.2)) U (metKs sg s1 s2) ks' (n + 1) ∧ H' Rl = some (.lst (bs.map V.ref)) ∧ Paired (StAtt H') bs ((ks'.take (n + 1)).map (metSt sg s1 s2 ks')), fun σ' H' ⟨x6, x7, x8, Kl, as, bs, ks', h1, h2, h3, h4, h5, h6, h7⟩ => ⟨U.length - (n + 1), by omega, n + 1, x6, x7, x8, Kl, as, bs, ks', rfl, h1, h2, h3, h4, h5, h6, h7⟩, ?_⟩
      obtain ⟨k, hk⟩ : ∃ k, ks[n]? = some k := ⟨ks[n], List.getElem?_eq_getElem c⟩
      obtain ⟨kb1, kb2⟩ := memU k (a.sub k (List.mem_of_getElem? hk))
      have e5 := a.cl
      refine ⟨by show 0 ≤ sizeLine; exact Nat.zero_le _, fun Ml hMl _ => ?_⟩
      have nMl : H Ml = none := g1.free hMl
      have s4 := same_upd (o := .lst []) (Same.refl H4) hMl
      have kM5 : (upd H4 Ml (.lst [])) Ml = some (.lst (([] : List Addr).map V.ref)) := upd_same
      generalize upd H4 Ml (.lst []) = H5 at s4 kM5 ⊢
      have nRM : Rl ≠ Ml := ne_of_none g4 hMl
      refine ⟨_, rfl, _, rfl, for_it walk_str (fun j σ H6 => ∃ (x7 x8 : Option V) (Kl : Addr) (as ps : List Addr), σ = [some (.str (SX.S sg)), some (.ref t1), some (.ref t2), some (.ref Kl), some (.ref Rl), some (.int (n : Nat)), some (.ref Ml), x7, x8] ∧ Same H H6 ∧ H6 Kl = some (.lst (as.map V.ref)) ∧
        Paired (PtAt H6) as (addAll ks ((metNx (sg.take j) s1 s2 k).map (·.2))) ∧ H6 Rl = some (.lst (bs.map V.ref)) ∧ Paired (StAtt H6) bs ((ks.take n).map (metSt sg s1 s2 ks)) ∧ H6 Ml = some (.lst (ps.map V.ref)) ∧
        Paired (MvAt H6) ps ((metNx (sg.take j) s1 s2 k).map fun p => (p.1, ixOf (addAll ks ((metNx (sg.take j) s1 s2 k).map (·.2))) p.2))) ?_ ?_ ?_ ?_⟩
      · exact ⟨_, _, Kl, as, [], rfl, g1.trans s4, s4 _ _ g2, L2.Paired.mapP g3 fun _ _ h => s4 _ _ h, s4 _ _ g4, L2.Paired.mapP g5 fun _ _ h => h.le s4, kM5, .nil⟩
      · exact fun _ _ _ _ _ => trivial
      · rintro j y σ H6 H7 hj ⟨x7, x8, Kl, as, ps, rfl, f1, f2, f3, f4, f5, f6, f7⟩ ⟨rfl, c', hc, rfl⟩
        have hc' : sg[j]? = some c' := by rw [← Array.getElem?_toList] at hc; exact hc
        generalize hM : metNx (sg.take j) s1 s2 k = mv at f3 f7
        have hpre := addAll_pre (xs := mv.map (·.2)) ks
        obtain ⟨l, hl⟩ := hpre
        have hkj : (addAll ks (mv.map (·.2)))[n]? = some k := by rw [hl, List.getElem?_append_left c]; exact hk
        obtain ⟨p, hp, hpk⟩ : ∃ p, as[n]? = some p ∧ PtAt H7 p k := by
          have lf := paired_len f3
          have hn : n < as.length := by
            have := (List.getElem?_eq_some_iff.mp hkj).1
            omega
          obtain ⟨k', hk', h⟩ := paired_get f3 (List.getElem?_eq_getElem hn)
          rw [hkj] at hk'
          obtain rfl : k = k' := Option.some.inj hk'
          exact ⟨as[n], List.getElem?_eq_getElem hn, h⟩
        have hpa : (as.map V.ref)[n]? = some (.ref p) := by rw [List.getElem?_map, hp]; rfl
        have hpk : H7 p = some (.tup [.int (k.1 : Nat), .int (k.2 : Nat)]) := hpk
        obtain ⟨b1, d1, b1e, b1t, b1r⟩ := at1 k.1 kb1
        obtain ⟨b2, d2, b2e, b2t, b2r⟩ := at2 k.2 kb2
        have gd1 := DGet.k (k := .inr ⟨#[c']⟩) (f1 _ _ b1r)
        have gd2 := DGet.k (k := .inr ⟨#[c']⟩) (f1 _ _ b2r)
        rw [valV_row] at gd1 gd2
        refine ⟨_, rfl, _, rfl, _, rfl, Kl, _, _, .ref p, rfl, rfl, SqL.of f2, atI_nat hpa, p, _, 0, .int (k.1 : Nat), rfl, rfl, SqT.of hpk, rfl, t1, _, _, .ref b1, rfl, rfl, SqT.of (f1 _ _ ht1), atI_nat b1e, b1, _, 0, .ref d1, rfl, rfl, SqT.of (f1 _ _ b1t), rfl, d1, rfl, .inl ⟨_, .inl (f1 _ _ b1r)⟩, _, rfl, _, gd1, ?_⟩
        refine ⟨_, rfl, _, rfl, _, rfl, Kl, _, _, .ref p, rfl, rfl, SqL.of f2, atI_nat hpa, p, _, 1, .int (k.2 : Nat), rfl, rfl, SqT.of hpk, rfl, t2, _, _, .ref b2, rfl, rfl, SqT.of (f1 _ _ ht2), atI_nat b2e, b2, _, 0, .ref d2, rfl, rfl, SqT.of (f1 _ _ b2t), rfl, d2, rfl, .inl ⟨_, .inl (f1 _ _ b2r)⟩, _, rfl, _, gd2, ?_⟩
        refine ⟨by show 2 ≤ sizeLine; decide, fun T2 hT2 => ?_⟩
        have hs := metNx_snoc (s1 := s1) (s2 := s2) (k := k) hc'
        rw [hM] at hs
        unfold rowAt at hs
        have skip : ∀ v1 v2 : V, metNx (sg.take (j + 1)) s1 s2 k = mv → ∃ (x7 x8 : Option V) (Kl_1 : Addr) (as ps : List Addr), [some (.str (SX.S sg)), some (.ref t1), some (.ref t2), some (.ref Kl), some (.ref Rl), some (.int (n : Nat)), some (.ref Ml), some (V.str ⟨#[c']⟩), some (.ref T2)] = [some (.str (SX.S sg)), some (.ref t1), some (.ref t2), some (.ref Kl_1), some (.ref Rl), some (.int (n : Nat)), some (.ref Ml), x7, x8] ∧ Same H (upd H7 T2 (.tup [v1, v2])) ∧ (upd H7 T2 (.tup [v1, v2])) Kl_1 = some (.lst (as.map V.ref)) ∧
            Paired (PtAt (upd H7 T2 (.tup [v1, v2]))) as (addAll ks ((metNx (sg.take (j + 1)) s1 s2 k).map (·.2))) ∧ (upd H7 T2 (.tup [v1, v2])) Rl = some (.lst (bs.map V.ref)) ∧ Paired (StAtt (upd H7 T2 (.tup [v1, v2]))) bs ((ks.take n).map (metSt sg s1 s2 ks)) ∧ (upd H7 T2 (.tup [v1, v2])) Ml = some (.lst (ps.map V.ref)) ∧
            Paired (MvAt (upd H7 T2 (.tup [v1, v2]))) ps ((metNx (sg.take (j + 1)) s1 s2 k).map fun p => (p.1, ixOf (addAll ks ((metNx (sg.take (j + 1)) s1 s2 k).map (·.2))) p.2)) := fun v1 v2 e => by
          have sm := same_upd (o := .tup [v1, v2]) (Same.refl H7) hT2
          rw [e]
          exact ⟨_, _, Kl, as, ps, rfl, f1.trans sm, sm _ _ f2, L2.Paired.mapP f3 fun _ _ h => sm _ _ h, sm _ _ f4, L2.Paired.mapP f5 fun _ _ h => h.le sm, sm _ _ f6, L2.Paired.mapP f7 fun _ _ h => sm _ _ h⟩
        cases q1 : lk (s1.getD k.1 ([], false)).1 c' with
        | none =>
          rw [q1] at hs
          refine ⟨_, rfl, T2, _, rfl, .inr (SqT.of upd_same), rfl, ?_, _, rfl, iteF (skip _ _ ?_)⟩
          · cases lk (s2.getD k.2 ([], false)).1 c' <;> rfl
          · rw [hs]
            exact List.append_nil _
        | some xx =>
          rw [q1] at hs
          cases q2 : lk (s2.getD k.2 ([], false)).1 c' with
          | none =>
            rw [q2] at hs
            refine ⟨_, rfl, T2, _, rfl, .inr (SqT.of upd_same), rfl, rfl, _, rfl, iteF (skip _ _ ?_)⟩
            rw [hs]
            exact List.append_nil _
          | some yy =>
            rw [q2] at hs
            have hs : metNx (sg.take (j + 1)) s1 s2 k = mv ++ [(c', (xx, yy))] := hs
            refine ⟨_, rfl, T2, _, rfl, .inr (SqT.of upd_same), rfl, rfl, _, rfl, iteT ?_⟩
            have hb2 : yy < s2.length ∧ xx < s1.length := by
              have hm1 := lk_mem q1
              have hm2 := lk_mem q2
              rw [List.getD_eq_getElem?_getD, List.getElem?_eq_getElem kb1] at hm1
              rw [List.getD_eq_getElem?_getD, List.getElem?_eq_getElem kb2] at hm2
              exact ⟨(ro2 _ (List.getElem_mem kb2)).lt _ hm2, (ro1 _ (List.getElem_mem kb1)).lt _ hm1⟩
            simp only [Option.map_some, Option.getD_some]
            have sm := same_upd (o := .tup [.int (xx : Nat), .int (yy : Nat)]) (Same.refl H7) hT2
            have kT2 : PtAt (upd H7 T2 (.tup [.int (xx : Nat), .int (yy : Nat)])) T2 (xx, yy) := upd_same
            generalize upd H7 T2 (.tup [.int (xx : Nat), .int (yy : Nat)]) = H8 at sm kT2 ⊢
            refine ⟨_, rfl, _, rfl, by show 1 ≤ sizeLine; decide, fun S hS _ => ?_⟩
            have s9 := same_upd (o := .lst [.ref T2]) (Same.refl H8) hS
            have kS : (upd H8 S (.lst [.ref T2])) S = some (.lst [.ref T2]) := upd_same
            generalize upd H8 S (.lst [.ref T2]) = H9 at s9 kS ⊢
            have f39 : Paired (PtAt H9) as (addAll ks (mv.map (·.2))) := L2.Paired.mapP f3 fun _ _ h => s9 _ _ (sm _ _ h)
            have f29 := s9 _ _ (sm _ _ f2)
            refine ⟨_, rfl, _, rfl, pD (xx, yy), _, dp_pt (s9 _ _ kT2), dp_keys f29 f39, enc_pD.shaped _, enc_pD.shapeds _, ?_⟩
            have key : ∀ b : Bool, ((addAll ks (mv.map (·.2))).map pD).any (fun z => PyData.eqv z (pD (xx, yy))) = b → ∃ nw : List Addr, (List.replicate (if (!b) = true then (1 : Int) else 0).toNat [V.ref T2]).flatten = nw.map V.ref ∧ nw.length ≤ 1 ∧ ∀ Hz, Same H9 Hz → Paired (PtAt Hz) (as ++ nw) (addK (addAll ks (mv.map (·.2))) (xx, yy)) := by
              intro b hb
              unfold addK
              by_cases c2 : (xx, yy) ∈ addAll ks (mv.map (·.2))
              · rw [enc_pD.any_pos c2] at hb
                subst hb
                refine ⟨[], rfl, Nat.zero_le _, fun Hz ez => ?_⟩
                rw [if_pos c2, List.append_nil]
                exact L2.Paired.mapP f39 fun _ _ h => ez _ _ h
              · rw [enc_pD.any_neg c2] at hb
                subst hb
                refine ⟨[T2], rfl, Nat.le_refl _, fun Hz ez => ?_⟩
                rw [if_neg c2]
                exact paired_snoc (L2.Paired.mapP f39 fun _ _ h => ez _ _ h) (ez _ _ (s9 _ _ kT2))
            generalize hb : ((addAll ks (mv.map (·.2))).map pD).any (fun z => PyData.eqv z (pD (xx, yy))) = b
            obtain ⟨nw, hnw, lnw, pnw⟩ := key b hb
            refine ⟨_, rfl, S, _, _, rfl, rfl, kS, by cases b <;> decide, by cases b <;> decide, ?_, fun S2 hS2 => ?_⟩
            · cases b
              · show 1 * 1 ≤ sizeLine; decide
              · show 1 * 0 ≤ sizeLine; decide
            rw [hnw]
            have s10 := same_upd (o := .lst (nw.map V.ref)) (Same.refl H9) hS2
            have kS2 : (upd H9 S2 (.lst (nw.map V.ref))) S2 = some (.lst (nw.map V.ref)) := upd_same
            generalize upd H9 S2 (.lst (nw.map V.ref)) = H10 at s10 kS2 ⊢
            have lmv : mv.length ≤ 4 := by
              have := metNx_len (sg := sg.take j) (s1 := s1) (s2 := s2) (k := k)
              rw [hM, List.length_take] at this
              omega
            have las : as.length ≤ 904 := by
              have h1 := paired_len f3
              have h2 := addAll_le (mv.map (·.2)) ks
              rw [List.length_map] at h2
              omega
            refine ⟨Kl, S2, _, _, rfl, rfl, s10 _ _ f29, kS2, by rw [List.length_map, List.length_map, sizeLine_eq]; omega, fun K2 hK2 => ?_⟩
            rw [← List.map_append]
            have s11 := same_upd (o := .lst ((as ++ nw).map V.ref)) s10 hK2
            have kK2 : (upd H10 K2 (.lst ((as ++ nw).map V.ref))) K2 = some (.lst ((as ++ nw).map V.ref)) := upd_same
            have nKM : K2 ≠ Ml := fun z => by rw [z, s10 _ _ (s9 _ _ (sm _ _ f6))] at hK2; cases hK2
            generalize upd H10 K2 (.lst ((as ++ nw).map V.ref)) = H11 at s11 kK2 ⊢
            have pk := pnw H11 s11
            have e711 : Same H7 H11 := (sm.trans s9).trans s11
            have f6' := e711 _ _ f6
            have mem : (xx, yy) ∈ addK (addAll ks (mv.map (·.2))) (xx, yy) := addK_mem.mpr (.inr rfl)
            refine ⟨_, rfl, .inl ⟨rfl, _, SqL.of f6'⟩, _, rfl, _, rfl, .inl ⟨rfl, _, SqL.of kK2⟩, _, rfl, ?_⟩
            unfold tNil
            dsimp only
            refine enc_pD.index mem (dp_keys kK2 pk) (dp_pt (s11 _ _ (s9 _ _ kT2))) ?_
            refine ⟨by show 2 ≤ sizeLine; decide, fun p2 hp2 => ?_⟩
            have lps := paired_len f7
            rw [List.length_map] at lps
            have s12 := same_upd (o := .tup [V.str ⟨#[c']⟩, .int (ixOf (addK (addAll ks (mv.map (·.2))) (xx, yy)) (xx, yy) : Nat)]) (Same.refl H11) hp2
            have k12 : (upd H11 p2 (.tup [V.str ⟨#[c']⟩, .int (ixOf (addK (addAll ks (mv.map (·.2))) (xx, yy)) (xx, yy) : Nat)])) p2 = some (.tup [V.str ⟨#[c']⟩, .int (ixOf (addK (addAll ks (mv.map (·.2))) (xx, yy)) (xx, yy) : Nat)]) := upd_same
            generalize upd H11 p2 (.tup [V.str ⟨#[c']⟩, .int (ixOf (addK (addAll ks (mv.map (·.2))) (xx, yy)) (xx, yy) : Nat)]) = H12 at s12 k12 ⊢
            have f6'' := s12 _ _ f6'
            refine ⟨Ml, _, _, rfl, rfl, f6'', by rw [List.length_map, sizeLine_eq]; omega, ?_⟩
            have hle : ∀ b o, (∀ l, o ≠ .lst l) → H12 b = some o → (upd H12 Ml (.lst (ps.map V.ref ++ [.ref p2]))) b = some o := fun b o ho hb => by
              rw [upd_ne (fun z => by rw [z, f6''] at hb; cases hb; exact ho _ rfl)]; exact hb
            have e712 : Same H7 H12 := e711.trans s12
            rw [hs, List.map_append, List.map_append]
            refine ⟨_, _, K2, as ++ nw, ps ++ [p2], rfl, same_mut (f1.trans e712) nMl, by rw [upd_ne nKM]; exact s12 _ _ kK2, ?_, by rw [upd_ne nRM]; exact e712 _ _ f4, ?_, by rw [upd_same, List.map_append]; rfl, ?_⟩
            · show Paired _ _ (addAll ks (mv.map (·.2) ++ [(xx, yy)]))
              rw [addAll_snoc]
              exact L2.Paired.mapP pk fun _ _ h => hle _ _ (by intro l z; cases z) (s12 _ _ h)
            · exact L2.Paired.mapP f5 fun b p ⟨d, c1, c2⟩ => ⟨d, hle _ _ (by intro l z; cases z) (e712 _ _ c1), hle _ _ (by intro l z; cases z) (e712 _ _ c2)⟩
            · show Paired _ _ (mv.map (fun p => (p.1, ixOf (addAll ks (mv.map (·.2) ++ [(xx, yy)])) p.2)) ++ [(c', ixOf (addAll ks (mv.map (·.2) ++ [(xx, yy)])) (xx, yy))])
              rw [addAll_snoc]
              have est : mv.map (fun p => (p.1, ixOf (addK (addAll ks (mv.map (·.2))) (xx, yy)) p.2)) = mv.map fun p => (p.1, ixOf (addAll ks (mv.map (·.2))) p.2) := List.map_congr_left fun p hp => by
                obtain ⟨l2, hl2⟩ := addK_pre (addAll ks (mv.map (·.2))) (xx, yy)
                rw [hl2, ixOf_app (addAll_mem.mpr (.inr (List.mem_map.mpr ⟨p, hp, rfl⟩)))]
              rw [est]
              exact paired_snoc (L2.Paired.mapP f7 fun _ _ h => hle _ _ (by intro l z; cases z) (e712 _ _ h)) (hle _ _ (by intro l z; cases z) k12)
      · rintro σ H6 ⟨x7, x8, Kl, as, ps, rfl, f1, f2, f3, f4, f5, f6, f7⟩
        have e9 : sg.take (SX.S sg).cps.size = sg := List.take_of_length_le (Nat.le_of_eq (len_cps (SX.S sg)).symm)
        rw [e9] at f3 f7
        generalize hks : addAll ks ((metNx sg s1 s2 k).map (·.2)) = ks' at f3 f7
        obtain ⟨l, hl⟩ := addAll_pre (xs := (metNx sg s1 s2 k).map (·.2)) ks
        rw [hks] at hl
        have hkj : ks'[n]? = some k := by rw [hl, List.getElem?_append_left c]; exact hk
        have a' := a.turn hU hk
        rw [hks] at a'
        have hks2 : ks'.length ≤ 900 := Nat.le_trans (nodup_len a'.nd a'.sub) hUl
        obtain ⟨p, hp, hpk⟩ : ∃ p, as[n]? = some p ∧ PtAt H6 p k := by
          have lf := paired_len f3
          have hn : n < as.length := by
            have := (List.getElem?_eq_some_iff.mp hkj).1
            omega
          obtain ⟨k', hk', h⟩ := paired_get f3 (List.getElem?_eq_getElem hn)
          rw [hkj] at hk'
          obtain rfl : k = k' := Option.some.inj hk'
          exact ⟨as[n], List.getElem?_eq_getElem hn, h⟩
        have hpa : (as.map V.ref)[n]? = some (.ref p) := by rw [List.getElem?_map, hp]; rfl
        obtain ⟨b1, d1, b1e, b1t, b1r⟩ := at1 k.1 kb1
        obtain ⟨b2, d2, b2e, b2t, b2r⟩ := at2 k.2 kb2
        have hmt : ((ks'.take n).map (metSt sg s1 s2 ks')) = (ks.take n).map (metSt sg s1 s2 ks) := by
          rw [hl]
          exact metSts_app (Nat.le_of_lt c) e5
        rw [← hmt] at f5
        have hrow : (rowOf sg s1 s2 ks' k) = (metNx sg s1 s2 k).map fun p => (p.1, ixOf ks' p.2) := rfl
        rw [← hrow] at f7
        have rsub : ((rowOf sg s1 s2 ks' k).map (·.1)).Sublist sg := by
          unfold rowOf
          rw [List.map_map]
          exact metNx_sub
        refine ⟨_, rfl, .inl ⟨rfl, _, SqL.of f4⟩, _, rfl, Ml, ps, kRow (rowOf sg s1 s2 ks' k), rfl, SqL.of f6, mv_kvs f7, fun E hE => ?_⟩
        rw [kRow_dict nd rsub]
        have sE := same_upd (o := .dK (kRow (rowOf sg s1 s2 ks' k))) (Same.refl H6) hE
        have kE : (upd H6 E (.dK (kRow (rowOf sg s1 s2 ks' k)))) E = some (.dK (kRow (rowOf sg s1 s2 ks' k))) := upd_same
        generalize upd H6 E (.dK (kRow (rowOf sg s1 s2 ks' k))) = H7 at sE kE ⊢
        have f17 := f1.trans sE
        have hpk : H7 p = some (.tup [.int (k.1 : Nat), .int (k.2 : Nat)]) := sE _ _ hpk
        have f27 := sE _ _ f2
        refine ⟨_, rfl, _, rfl, _, rfl, Kl, _, _, .ref p, rfl, rfl, SqL.of f27, atI_nat hpa, p, _, 0, .int (k.1 : Nat), rfl, rfl, SqT.of hpk, rfl, t1, _, _, .ref b1, rfl, rfl, SqT.of (f17 _ _ ht1), atI_nat b1e, b1, _, 1, .bl (s1.getD k.1 ([], false)).2, rfl, rfl, SqT.of (f17 _ _ b1t), rfl, _, rfl, ?_⟩
        have fin : ∀ g : Bool, g = (goodAt s1 k.1 && goodAt s2 k.2) → ∀ T3, H7 T3 = none → ∃ (x6 x7_1 x8_1 : Option V) (Kl_1 : Addr) (as_1 bs_1 : List Addr) (ks'_1 : List Key2), [some (.str (SX.S sg)), some (.ref t1), some (.ref t2), some (.ref Kl), some (.ref Rl), some (.int ((n : Nat) + 1 : Int)), some (.ref Ml), x7, x8] = [some (.str (SX.S sg)), some (.ref t1), some (.ref t2), some (.ref Kl_1), some (.ref Rl), some (.int ((n + 1 : Nat) : Int)), x6, x7_1, x8_1] ∧
            Same H (upd (upd H7 T3 (.tup [.ref E, .bl g])) Rl (.lst (bs.map V.ref ++ [.ref T3]))) ∧ (upd (upd H7 T3 (.tup [.ref E, .bl g])) Rl (.lst (bs.map V.ref ++ [.ref T3]))) Kl_1 = some (.lst (as_1.map V.ref)) ∧ Paired (PtAt (upd (upd H7 T3 (.tup [.ref E, .bl g])) Rl (.lst (bs.map V.ref ++ [.ref T3])))) as_1 ks'_1 ∧
            At (fun k => (metNx sg s1 s2 k).map (·.2)) U (metKs sg s1 s2) ks'_1 (n + 1) ∧ (upd (upd H7 T3 (.tup [.ref E, .bl g])) Rl (.lst (bs.map V.ref ++ [.ref T3]))) Rl = some (.lst (bs_1.map V.ref)) ∧ Paired (StAtt (upd (upd H7 T3 (.tup [.ref E, .bl g])) Rl (.lst (bs.map V.ref ++ [.ref T3])))) bs_1 ((ks'_1.take (n + 1)).map (metSt sg s1 s2 ks'_1)) := by
          intro g hg T3 hT3
          have g4' := sE _ _ f4
          have s8 := same_upd (o := .tup [.ref E, .bl g]) (Same.refl H7) hT3
          have k8 : (upd H7 T3 (.tup [.ref E, .bl g])) T3 = some (.tup [.ref E, .bl g]) := upd_same
          generalize upd H7 T3 (.tup [.ref E, .bl g]) = H8 at s8 k8
          have g4'' := s8 _ _ g4'
          have e78 := sE.trans s8
          have hle : ∀ b o, (∀ l, o ≠ .lst l) → H8 b = some o → (upd H8 Rl (.lst (bs.map V.ref ++ [.ref T3]))) b = some o := fun b o ho hb => by
            rw [upd_ne (fun z => by rw [z, g4''] at hb; cases hb; exact ho _ rfl)]; exact hb
          have nKR : Kl ≠ Rl := fun z => by
            rw [z, f4] at f2
            injection f2 with f2
            injection f2 with f2
            have h1 := congrArg List.length f2
            rw [List.length_map, List.length_map] at h1
            have h2 := paired_len f3
            have h3 := paired_len f5
            rw [List.length_map, List.length_take] at h3
            have h4 := (List.getElem?_eq_some_iff.mp hkj).1
            omega
          refine ⟨_, _, _, Kl, as, bs ++ [T3], ks', rfl, same_mut (f1.trans e78) nRl, by rw [upd_ne nKR]; exact e78 _ _ f2, L2.Paired.mapP f3 fun _ _ h => hle _ _ (by intro l z; cases z) (e78 _ _ h), a', by rw [upd_same, List.map_append]; rfl, ?_⟩
          rw [take_snoc hkj, List.map_append]
          refine paired_snoc (L2.Paired.mapP f5 fun b p ⟨d, c1, c2⟩ => ⟨d, hle _ _ (by intro l z; cases z) (e78 _ _ c1), hle _ _ (by intro l z; cases z) (e78 _ _ c2)⟩) ⟨E, ?_, hle _ _ (by intro l z; cases z) (s8 _ _ kE)⟩
          show (_ : Option HO) = some (HO.tup [.ref E, .bl (goodAt s1 k.1 && goodAt s2 k.2)])
          rw [← hg]
          exact hle _ _ (by intro l z; cases z) k8
        have lbs : bs.length ≤ 900 := by
          have := paired_len f5
          rw [List.length_map, List.length_take] at this
          omega
        have tail : ∀ T3, H7 T3 = none → ∀ g : Bool, (upd H7 T3 (.tup [.ref E, .bl g])) Rl = some (.lst (bs.map V.ref)) := fun T3 hT3 g => by
          rw [upd_ne (ne_of_none (sE _ _ f4) hT3)]; exact sE _ _ f4
        cases hg1 : (s1.getD k.1 ([], false)).2 with
        | true =>
          refine iteT ⟨_, rfl, _, rfl, _, rfl, Kl, _, _, .ref p, rfl, rfl, SqL.of f27, atI_nat hpa, p, _, 1, .int (k.2 : Nat), rfl, rfl, SqT.of hpk, rfl, t2, _, _, .ref b2, rfl, rfl, SqT.of (f17 _ _ ht2), atI_nat b2e, b2, _, 1, .bl (s2.getD k.2 ([], false)).2, rfl, rfl, SqT.of (f17 _ _ b2t), rfl, ?_⟩
          refine ⟨by show 2 ≤ sizeLine; decide, fun T3 hT3 => ⟨Rl, _, _, rfl, rfl, tail T3 hT3 _, by rw [List.length_map, sizeLine_eq]; omega, _, rfl, _, _, rfl, rfl, fin _ ?_ T3 hT3⟩⟩
          unfold goodAt
          rw [hg1, Bool.true_and]
        | false =>
          refine iteF ?_
          refine ⟨by show 2 ≤ sizeLine; decide, fun T3 hT3 => ⟨Rl, _, _, rfl, rfl, tail T3 hT3 _, by rw [List.length_map, sizeLine_eq]; omega, _, rfl, _, _, rfl, rfl, fin _ ?_ T3 hT3⟩⟩
          unfold goodAt
          rw [hg1, Bool.false_and]
    · rw [decide_eq_false (show ¬ ((n : Nat) : Int) < (ks.length : Nat) by omega)]
      refine iteF ?_
      have eR := a.done (by omega)
      have en : n = ks.length := by have := a.le; omega
      rw [en, List.take_of_length_le (Nat.le_refl _)] at g5
      refine ⟨_, rfl, Rl, _, rfl, .inl ⟨SqL.of g4, fun u hu => ?_⟩⟩
      have e6 := same_upd (o := .tup (bs.map V.ref)) (Same.refl H4) hu
      refine k u _ (g1.trans e6) ⟨bs, upd_same, ?_⟩
      rw [met_eq, ← eR]
      exact L2.Paired.mapP g5 fun _ _ h => h.le e6
end
end Fs
namespace Fs
open PySem PySem.Spec PyProof.Rows L2 SlX RZ StX
/-! ### the law's own: a rule turned, its keys numbers or None -/
def nV : Option Nat → V
  | none => .non
  | some i => .int (i : Nat)
def nD : Option Nat → PyData
  | none => .none
  | some i => .int (i : Nat)
theorem enc_nD : Enc nD := by
  refine ⟨fun k => by cases k <;> simp [nD, PyData.canLay0], fun k => by cases k <;> simp [nD, PyData.depth], fun a b => ?_⟩
  cases a with
  | none => cases b <;> simp [nD, PyData.eqv]
  | some i =>
    cases b with
    | none => simp [nD, PyData.eqv]
    | some j =>
      have e : PyData.eqv (nD (some i)) (nD (some j)) = ((i : Int) == (j : Int)) := by simp only [nD, PyData.eqv]
      rw [e]
      by_cases h : i = j
      · subst h; simp
      · have : ¬ (i : Int) = j := by omega
        simp [h, this]
theorem dp_n {K : PySem.W.Frag} {H : Hp} : ∀ k : Option Nat, Dp K H (nV k) (nD k)
  | none => .non
  | some _ => .int _
theorem dp_ns {K : PySem.W.Frag} {H : Hp} : ∀ (ks : List (Option Nat)), DpAll K H (ks.map nV) (ks.map nD)
  | [] => .nil
  | k :: ks => .cons (dp_n k) (dp_ns ks)
theorem dp_nkeys {K : PySem.W.Frag} {H : Hp} {a : Addr} {ks : List (Option Nat)} (h : H a = some (.lst (ks.map nV))) : Dp K H (.ref a) (.list (ks.map nD)) := .lst (SqL.of h) (dp_ns ks)
def turSt (sg : List Nat) (s1 : Sts) (ks : List (Option Nat)) (k : Option Nat) : Row × Bool := (rowTu sg s1 ks k, goodTu s1 k)
theorem turSt_app {sg : List Nat} {s1 : Sts} {ks l : List (Option Nat)} {k : Option Nat} (h : ∀ x ∈ (turNx sg s1 k).map (·.2), x ∈ ks) : turSt sg s1 (ks ++ l) k = turSt sg s1 ks k := by
  unfold turSt rowTu
  congr 1
  refine List.map_congr_left fun p hp => ?_
  rw [ixOf_app (h _ (List.mem_map.mpr ⟨p, hp, rfl⟩))]
theorem turSts_app {sg : List Nat} {s1 : Sts} {ks l : List (Option Nat)} {n : Nat} (hn : n ≤ ks.length) (h : ∀ j k, j < n → ks[j]? = some k → ∀ x ∈ (turNx sg s1 k).map (·.2), x ∈ ks) : ((ks ++ l).take n).map (turSt sg s1 (ks ++ l)) = (ks.take n).map (turSt sg s1 ks) := by
  rw [List.take_append_of_le_length hn]
  refine List.map_congr_left fun k hk => ?_
  obtain ⟨j, hj⟩ := List.getElem?_of_mem hk
  rw [List.getElem?_take] at hj
  split at hj
  · rename_i c
    exact turSt_app (h j k c hj)
  · cases hj
section
variable {P : Program} {w : World} {K : PySem.W.Frag} {mg : Str → Option Value} {base : Heap}
def spLTur : Sp := fun vs H Q _ => ∃ (t1 : Addr) (sg : List Nat) (s1 : Sts), vs = [.str (SX.S sg), .ref t1] ∧ StsT H t1 s1 ∧ RowsOk sg s1 ∧ 1 ≤ s1.length ∧ s1.length ≤ 30 ∧ SgOk sg ∧
  ∀ (t : Addr) (H' : Hp), Same H H' → StsT H' t (turned sg s1) → Q (.ref t) H'
abbrev s_turned : Stmt := top 38
theorem sc_turned : FnScope ["signs", "one", "keys", "rows", "at", "moves", "sign", "to"] ["signs", "one"] (defScope s_turned) := ⟨rfl, rfl, rfl, by decide +kernel, rfl, by decide +kernel, by decide +kernel⟩
theorem cal_turned (T : Bs mg) (D : Df K mg "_law_turned" s_turned ["signs", "one"]) : Cal P w K mg base 1 "_law_turned" spLTur := by
  refine D.cal sc_turned (fun vs H Q E h => ?_) (fun f cdv A outer s H vs Q E hr h => ?_)
  · obtain ⟨t1, sg, s1, rfl, _⟩ := h
    rfl
  · obtain ⟨t1, sg, s1, rfl, ss1, ro1, p1, m1, sgo, k⟩ := h
    refine ⟨_, pss_cons (ps_par3 (i := 2) (j := 3) (l := 4) rfl sc_turned.nd rfl rfl rfl (by decide) (by decide) (by decide) rfl rfl rfl (pa_cons (pe_lstN (pa_cons pe_int pa_nil)) (pa_cons (pe_lstN pa_nil) (pa_cons pe_int pa_nil))) (by rfl))
      (pss_cons (ps_while PassesOwn.never (pt_cmpR op_lt (pv 4) (pb call_len3 T.z_len (pa_cons (pv 2) pa_nil)) (nomark _))
        (pss_cons (ps_set (i := 5) sc_turned.nd rfl (.inl rfl) (pe_lstN pa_nil))
        (pss_cons (ps_for PassesOwn.never rfl (pi_str (pv 0)) (pg_name (i := 6) sc_turned.nd rfl (Or.inl rfl))
          (pss_cons (ps_set (i := 7) sc_turned.nd rfl (.inl rfl) (pe_ifExp (pt_cmpR op_notN (pe_ix ix_list (pv 2) (pv 4) (fun _ _ => rfl)) pe_non (nomark _)) (pe_dget2 (hu_of hr.rm) (pe_ix ix_tup (pe_ix ix_tup (pv 1) (pe_ix ix_list (pv 2) (pv 4) (fun _ _ => rfl)) (fun _ _ => rfl)) pe_int (fun _ _ => rfl)) (pv 6) pe_non ⟨rfl, rfl, rfl, rfl⟩) pe_non))
          (pss_cons (ps_set (i := 2) sc_turned.nd rfl (.inl rfl) (pe_op op_cat (pv 2) (pe_op op_rep (pe_lstN (pa_cons (pv 7) pa_nil)) (pt call_intB T.z_int (pa_cons (pe_cmpR (op_notInD (hu65 hr.rm)) (pv 7) (pv 2) (by rfl)) pa_nil)))))
          (pss_one (ps_expr (pe_bm PySem.F.plainAttrs_list PySem.F.slot_list_append PySem.F.type_list_append mt_append (pv 5) (pa_cons (pe_tup (pa_cons (pv 6) (pa_cons (pe_bm PySem.F.plainAttrs_list PySem.F.slot_list_index PySem.F.type_list_index (mt_indexD (hu65 hr.rm)) (pv 2) (pa_cons (pv 7) pa_nil)) pa_nil))) pa_nil)))))))
        (pss_cons (ps_expr (pe_bm PySem.F.plainAttrs_list PySem.F.slot_list_append PySem.F.type_list_append mt_append (pv 3) (pa_cons (pe_tup (pa_cons (pt (call_dictP rfl) T.z_dict (pa_cons (pv 5) pa_nil)) (pa_cons (pe_or (pe_cmpR op_isN (pe_ix ix_list (pv 2) (pv 4) (fun _ _ => rfl)) pe_non (nomark _)) (pe_one (pe_not (pe_ix ix_tup (pe_ix ix_tup (pv 1) (pe_ix ix_list (pv 2) (pv 4) (fun _ _ => rfl)) (fun _ _ => rfl)) pe_int (fun _ _ => rfl))))) pa_nil))) pa_nil)))
        (pss_one (ps_set (i := 4) sc_turned.nd rfl (.inl rfl) (pe_op op_add (pv 4) pe_int)))))))
      (pss_one (ps_ret (pt call_tuple_of T.z_tuple (pa_cons (pv 3) pa_nil))))), ?_⟩
    have nd := sgo.nodup
    have lsg := sgo.len.2
    have hUl : (optU s1).length ≤ 31 := by unfold optU; rw [List.length_cons, List.length_map, List.length_range]; omega
    have hU := turNx_U ro1
    generalize hUe : optU s1 = U at hUl hU
    have memU : ∀ k : Option Nat, k ∈ U → ∀ i, k = some i → i < s1.length := fun k hk => by rw [← hUe] at hk; exact mem_optU.mp hk
    have hR : turKs sg s1 = bfs (fun k => (turNx sg s1 k).map (·.2)) U.length [some 0] 0 := by rw [← hUe]; rfl
    have hst : (some 0 : Option Nat) ∈ U := by rw [← hUe]; exact mem_optU.mpr fun i e => by cases e; exact p1
    obtain ⟨as1, ht1, at1⟩ := ss1.at
    refine ⟨by show 1 ≤ sizeLine; decide, fun Kl hKl _ => ⟨by show 0 ≤ sizeLine; exact Nat.zero_le _, fun Rl hRl _ => ⟨_, _, _, rfl, ?_⟩⟩⟩
    have e2 := same_upd (o := .lst [.int 0]) (Same.refl H) hKl
    have kK1 : (upd H Kl (.lst [.int 0])) Kl = some (.lst ([some 0].map nV)) := upd_same
    generalize upd H Kl (.lst [.int 0]) = H2 at e2 kK1 hRl ⊢
    have e3 := same_upd (o := .lst []) (Same.refl H2) hRl
    have kR3 : (upd H2 Rl (.lst [])) Rl = some (.lst []) := upd_same
    have nRl : H Rl = none := e2.free hRl
    generalize upd H2 Rl (.lst []) = H3 at e3 kR3 ⊢
    refine ⟨fun m σ H4 => ∃ (n : Nat) (x5 x6 x7 : Option V) (Kl : Addr) (bs : List Addr) (ks : List (Option Nat)), m = U.length - n ∧ σ = [some (.str (SX.S sg)), some (.ref t1), some (.ref Kl), some (.ref Rl), some (.int (n : Nat)), x5, x6, x7] ∧ Same H H4 ∧ H4 Kl = some (.lst (ks.map nV)) ∧
      At (fun k => (turNx sg s1 k).map (·.2)) U (turKs sg s1) ks n ∧ H4 Rl = some (.lst (bs.map V.ref)) ∧ Paired (StAtt H4) bs ((ks.take n).map (turSt sg s1 ks)), ⟨U.length - 0, 0, none, none, none, Kl, [], [some 0], rfl, rfl, e2.trans e3, e3 _ _ kK1, by rw [hR]; exact At.start hst, kR3, .nil⟩, ?_⟩
    clear kK1 hKl hRl
    rintro m σ H4 ⟨n, x5, x6, x7, Kl, bs, ks, rfl, rfl, g1, g2, a, g4, g5⟩
    have lks := nodup_len a.nd a.sub
    refine ⟨_, rfl, _, rfl, _, _, rfl, Of3.lst g2, _, _, rfl, rfl, _, rfl, ?_⟩
    rw [List.length_map]
    by_cases c : n < ks.length
    · rw [decide_eq_true (show ((n : Nat) : Int) < (ks.length : Nat) by omega)]
      refine iteT ⟨fun σ' H' => ∃ (x5 x6 x7 : Option V) (Kl : Addr) (bs : List Addr) (ks' : List (Option Nat)), σ' = [some (.str (SX.S sg)), some (.ref t1), some (.ref Kl), some (.ref Rl), some (.int ((n + 1 : Nat) : Int)), x5, x6, x7] ∧ Same H H' ∧ H' Kl = some (.lst (ks'.map nV)) ∧
        At (fun k => (turNx sg s1 k).map (·.2)) U (turKs sg s1) ks' (n + 1) ∧ H' Rl = some (.lst (bs.map V.ref)) ∧ Paired (StAtt H') bs ((ks'.take (n + 1)).map (turSt sg s1 ks')), fun σ' H' ⟨x5, x6, x7, Kl, bs, ks', h1, h2, h3, h5, h6, h7⟩ => ⟨U.length - (n + 1), by omega, n + 1, x5, x6, x7, Kl, bs, ks', rfl, h1, h2, h3, h5, h6, h7⟩, ?_⟩
      obtain ⟨k, hk⟩ : ∃ k, ks[n]? = some k := ⟨ks[n], List.getElem?_eq_getElem c⟩
      have kb := memU k (a.sub k (List.mem_of_getElem? hk))
      have e5 := a.cl
      refine ⟨by show 0 ≤ sizeLine; exact Nat.zero_le _, fun Ml hMl _ => ?_⟩
      have nMl : H Ml = none := g1.free hMl
      have s4 := same_upd (o := .lst []) (Same.refl H4) hMl
      have kM5 : (upd H4 Ml (.lst [])) Ml = some (.lst (([] : List Addr).map V.ref)) := upd_same
      generalize upd H4 Ml (.lst []) = H5 at s4 kM5 ⊢
      have nRM : Rl ≠ Ml := ne_of_none g4 hMl
      refine ⟨_, rfl, _, rfl, for_it walk_str (fun j σ H6 => ∃ (x6 x7 : Option V) (Kl : Addr) (ps : List Addr), σ = [some (.str (SX.S sg)), some (.ref t1), some (.ref Kl), some (.ref Rl), some (.int (n : Nat)), some (.ref Ml), x6, x7] ∧ Same H H6 ∧ H6 Kl = some (.lst ((addAll ks ((turNx (sg.take j) s1 k).map (·.2))).map nV)) ∧
        H6 Rl = some (.lst (bs.map V.ref)) ∧ Paired (StAtt H6) bs ((ks.take n).map (turSt sg s1 ks)) ∧ H6 Ml = some (.lst (ps.map V.ref)) ∧
        Paired (MvAt H6) ps ((turNx (sg.take j) s1 k).map fun p => (p.1, ixOf (addAll ks ((turNx (sg.take j) s1 k).map (·.2))) p.2))) ?_ ?_ ?_ ?_⟩
      · exact ⟨_, _, Kl, [], rfl, g1.trans s4, s4 _ _ g2, s4 _ _ g4, L2.Paired.mapP g5 fun _ _ h => h.le s4, kM5, .nil⟩
      · exact fun _ _ _ _ _ => trivial
      · rintro j y σ H6 H7 hj ⟨x6, x7, Kl, ps, rfl, f1, f2, f4, f5, f6, f7⟩ ⟨rfl, c', hc, rfl⟩
        have hc' : sg[j]? = some c' := by rw [← Array.getElem?_toList] at hc; exact hc
        have hs := turNx_snoc (s := s1) (k := k) hc'
        generalize hM : turNx (sg.take j) s1 k = mv at f2 f7 hs
        obtain ⟨l, hl⟩ := addAll_pre (xs := mv.map (·.2)) ks
        have hkj : (addAll ks (mv.map (·.2)))[n]? = some k := by rw [hl, List.getElem?_append_left c]; exact hk
        have hpa : ((addAll ks (mv.map (·.2))).map nV)[n]? = some (nV k) := by rw [List.getElem?_map, hkj]; rfl
        refine ⟨_, rfl, _, rfl, Kl, _, _, nV k, rfl, rfl, SqL.of f2, atI_nat hpa, rfl, _, rfl, ?_⟩
        have lmv : mv.length ≤ 4 := by
          have := turNx_len (sg := sg.take j) (s := s1) (k := k)
          rw [hM, List.length_take] at this
          omega
        have las : (addAll ks (mv.map (·.2))).length ≤ 40 := by
          have h2 := addAll_le (mv.map (·.2)) ks
          rw [List.length_map] at h2
          omega
        unfold rowAt at hs
        cases k with
        | none =>
          refine iteF ?_
          have hs : turNx (sg.take (j + 1)) s1 none = mv ++ [(c', none)] := hs
          refine ⟨_, rfl, _, rfl, by show 1 ≤ sizeLine; decide, fun S hS _ => ?_⟩
          have s9 := same_upd (o := .lst [V.non]) (Same.refl H7) hS
          have kS : (upd H7 S (.lst [V.non])) S = some (.lst [V.non]) := upd_same
          generalize upd H7 S (.lst [V.non]) = H9 at s9 kS ⊢
          have f29 := s9 _ _ f2
          refine ⟨_, rfl, _, rfl, nD (none : Option Nat), _, dp_n (none : Option Nat), dp_nkeys f29, enc_nD.shaped _, enc_nD.shapeds _, ?_⟩
          have key : ∀ b : Bool, ((addAll ks (mv.map (·.2))).map nD).any (fun z => PyData.eqv z (nD (none : Option Nat))) = b → ∃ nw : List (Option Nat), (List.replicate (if (!b) = true then (1 : Int) else 0).toNat [V.non]).flatten = nw.map nV ∧ nw.length ≤ 1 ∧ addAll ks (mv.map (·.2)) ++ nw = addK (addAll ks (mv.map (·.2))) (none : Option Nat) := by
            intro b hb
            unfold addK
            by_cases c2 : (none : Option Nat) ∈ addAll ks (mv.map (·.2))
            · rw [enc_nD.any_pos c2] at hb
              subst hb
              exact ⟨[], rfl, Nat.zero_le _, by rw [if_pos c2, List.append_nil]⟩
            · rw [enc_nD.any_neg c2] at hb
              subst hb
              exact ⟨[(none : Option Nat)], rfl, Nat.le_refl _, by rw [if_neg c2]⟩
          generalize hb : ((addAll ks (mv.map (·.2))).map nD).any (fun z => PyData.eqv z (nD (none : Option Nat))) = b
          obtain ⟨nw, hnw, lnw, pnw⟩ := key b hb
          refine ⟨_, rfl, S, _, _, rfl, rfl, kS, by cases b <;> decide, by cases b <;> decide, ?_, fun S2 hS2 => ?_⟩
          · cases b
            · show 1 * 1 ≤ sizeLine; decide
            · show 1 * 0 ≤ sizeLine; decide
          rw [hnw]
          have s10 := same_upd (o := .lst (nw.map nV)) (Same.refl H9) hS2
          have kS2 : (upd H9 S2 (.lst (nw.map nV))) S2 = some (.lst (nw.map nV)) := upd_same
          generalize upd H9 S2 (.lst (nw.map nV)) = H10 at s10 kS2 ⊢
          refine ⟨Kl, S2, _, _, rfl, rfl, s10 _ _ f29, kS2, by rw [List.length_map, List.length_map, sizeLine_eq]; omega, fun K2 hK2 => ?_⟩
          rw [← List.map_append, pnw]
          have s11 := same_upd (o := .lst ((addK (addAll ks (mv.map (·.2))) (none : Option Nat)).map nV)) s10 hK2
          have kK2 : (upd H10 K2 (.lst ((addK (addAll ks (mv.map (·.2))) (none : Option Nat)).map nV))) K2 = some (.lst ((addK (addAll ks (mv.map (·.2))) (none : Option Nat)).map nV)) := upd_same
          have nKM : K2 ≠ Ml := fun z => by rw [z, s10 _ _ (s9 _ _ f6)] at hK2; cases hK2
          generalize upd H10 K2 (.lst ((addK (addAll ks (mv.map (·.2))) (none : Option Nat)).map nV)) = H11 at s11 kK2 ⊢
          have e711 : Same H7 H11 := s9.trans s11
          have f6' := e711 _ _ f6
          have mem : (none : Option Nat) ∈ addK (addAll ks (mv.map (·.2))) (none : Option Nat) := addK_mem.mpr (.inr rfl)
          refine ⟨_, rfl, .inl ⟨rfl, _, SqL.of f6'⟩, _, rfl, _, rfl, .inl ⟨rfl, _, SqL.of kK2⟩, _, rfl, ?_⟩
          unfold tNil
          dsimp only
          refine enc_nD.index mem (dp_nkeys kK2) (dp_n (none : Option Nat)) ?_
          refine ⟨by show 2 ≤ sizeLine; decide, fun p2 hp2 => ?_⟩
          have lps := paired_len f7
          rw [List.length_map] at lps
          have s12 := same_upd (o := .tup [V.str ⟨#[c']⟩, .int (ixOf (addK (addAll ks (mv.map (·.2))) (none : Option Nat)) (none : Option Nat) : Nat)]) (Same.refl H11) hp2
          have k12 : (upd H11 p2 (.tup [V.str ⟨#[c']⟩, .int (ixOf (addK (addAll ks (mv.map (·.2))) (none : Option Nat)) (none : Option Nat) : Nat)])) p2 = some (.tup [V.str ⟨#[c']⟩, .int (ixOf (addK (addAll ks (mv.map (·.2))) (none : Option Nat)) (none : Option Nat) : Nat)]) := upd_same
          generalize upd H11 p2 (.tup [V.str ⟨#[c']⟩, .int (ixOf (addK (addAll ks (mv.map (·.2))) (none : Option Nat)) (none : Option Nat) : Nat)]) = H12 at s12 k12 ⊢
          have f6'' := s12 _ _ f6'
          refine ⟨Ml, _, _, rfl, rfl, f6'', by rw [List.length_map, sizeLine_eq]; omega, ?_⟩
          have hle : ∀ b o, (∀ l, o ≠ .lst l) → H12 b = some o → (upd H12 Ml (.lst (ps.map V.ref ++ [.ref p2]))) b = some o := fun b o ho hb => by
            rw [upd_ne (fun z => by rw [z, f6''] at hb; cases hb; exact ho _ rfl)]; exact hb
          have e712 : Same H7 H12 := e711.trans s12
          rw [hs, List.map_append, List.map_append]
          refine ⟨_, _, K2, ps ++ [p2], rfl, same_mut (f1.trans e712) nMl, ?_, by rw [upd_ne nRM]; exact e712 _ _ f4, ?_, by rw [upd_same, List.map_append]; rfl, ?_⟩
          · show _ = some (HO.lst ((addAll ks (mv.map (·.2) ++ [(none : Option Nat)])).map nV))
            rw [addAll_snoc, upd_ne nKM]
            exact s12 _ _ kK2
          · exact L2.Paired.mapP f5 fun b p ⟨d, c1, c2⟩ => ⟨d, hle _ _ (by intro l z; cases z) (e712 _ _ c1), hle _ _ (by intro l z; cases z) (e712 _ _ c2)⟩
          · show Paired _ _ (mv.map (fun p => (p.1, ixOf (addAll ks (mv.map (·.2) ++ [(none : Option Nat)])) p.2)) ++ [(c', ixOf (addAll ks (mv.map (·.2) ++ [(none : Option Nat)])) (none : Option Nat))])
            rw [addAll_snoc]
            have est : mv.map (fun p => (p.1, ixOf (addK (addAll ks (mv.map (·.2))) (none : Option Nat)) p.2)) = mv.map fun p => (p.1, ixOf (addAll ks (mv.map (·.2))) p.2) := List.map_congr_left fun p hp => by
              obtain ⟨l2, hl2⟩ := addK_pre (addAll ks (mv.map (·.2))) (none : Option Nat)
              rw [hl2, ixOf_app (addAll_mem.mpr (.inr (List.mem_map.mpr ⟨p, hp, rfl⟩)))]
            rw [est]
            exact paired_snoc (L2.Paired.mapP f7 fun _ _ h => hle _ _ (by intro l z; cases z) (e712 _ _ h)) (hle _ _ (by intro l z; cases z) k12)
        | some i =>
          have kb := kb i rfl
          obtain ⟨b1, d1, b1e, b1t, b1r⟩ := at1 i kb
          have gd1 := DGet.k (k := .inr ⟨#[c']⟩) (f1 _ _ b1r)
          rw [valV_row] at gd1
          refine iteT ⟨_, rfl, _, rfl, _, rfl, Kl, _, _, .int (i : Nat), rfl, rfl, SqL.of f2, atI_nat hpa, t1, _, _, .ref b1, rfl, rfl, SqT.of (f1 _ _ ht1), atI_nat b1e, b1, _, 0, .ref d1, rfl, rfl, SqT.of (f1 _ _ b1t), rfl, d1, rfl, .inl ⟨_, .inl (f1 _ _ b1r)⟩, _, rfl, _, gd1, ?_⟩
          cases q1 : lk (s1.getD i ([], false)).1 c' with
          | none =>
            have hs : turNx (sg.take (j + 1)) s1 (some i) = mv ++ [(c', none)] := by
              rw [hs]
              show mv ++ [(c', lk (s1.getD i ([], false)).1 c')] = _
              rw [q1]
            simp only [Option.map_none, Option.getD_none]
            refine ⟨_, rfl, _, rfl, by show 1 ≤ sizeLine; decide, fun S hS _ => ?_⟩
            have s9 := same_upd (o := .lst [V.non]) (Same.refl H7) hS
            have kS : (upd H7 S (.lst [V.non])) S = some (.lst [V.non]) := upd_same
            generalize upd H7 S (.lst [V.non]) = H9 at s9 kS ⊢
            have f29 := s9 _ _ f2
            refine ⟨_, rfl, _, rfl, nD (none : Option Nat), _, dp_n (none : Option Nat), dp_nkeys f29, enc_nD.shaped _, enc_nD.shapeds _, ?_⟩
            have key : ∀ b : Bool, ((addAll ks (mv.map (·.2))).map nD).any (fun z => PyData.eqv z (nD (none : Option Nat))) = b → ∃ nw : List (Option Nat), (List.replicate (if (!b) = true then (1 : Int) else 0).toNat [V.non]).flatten = nw.map nV ∧ nw.length ≤ 1 ∧ addAll ks (mv.map (·.2)) ++ nw = addK (addAll ks (mv.map (·.2))) (none : Option Nat) := by
              intro b hb
              unfold addK
              by_cases c2 : (none : Option Nat) ∈ addAll ks (mv.map (·.2))
              · rw [enc_nD.any_pos c2] at hb
                subst hb
                exact ⟨[], rfl, Nat.zero_le _, by rw [if_pos c2, List.append_nil]⟩
              · rw [enc_nD.any_neg c2] at hb
                subst hb
                exact ⟨[(none : Option Nat)], rfl, Nat.le_refl _, by rw [if_neg c2]⟩
            generalize hb : ((addAll ks (mv.map (·.2))).map nD).any (fun z => PyData.eqv z (nD (none : Option Nat))) = b
            obtain ⟨nw, hnw, lnw, pnw⟩ := key b hb
            refine ⟨_, rfl, S, _, _, rfl, rfl, kS, by cases b <;> decide, by cases b <;> decide, ?_, fun S2 hS2 => ?_⟩
            · cases b
              · show 1 * 1 ≤ sizeLine; decide
              · show 1 * 0 ≤ sizeLine; decide
            rw [hnw]
            have s10 := same_upd (o := .lst (nw.map nV)) (Same.refl H9) hS2
            have kS2 : (upd H9 S2 (.lst (nw.map nV))) S2 = some (.lst (nw.map nV)) := upd_same
            generalize upd H9 S2 (.lst (nw.map nV)) = H10 at s10 kS2 ⊢
            refine ⟨Kl, S2, _, _, rfl, rfl, s10 _ _ f29, kS2, by rw [List.length_map, List.length_map, sizeLine_eq]; omega, fun K2 hK2 => ?_⟩
            rw [← List.map_append, pnw]
            have s11 := same_upd (o := .lst ((addK (addAll ks (mv.map (·.2))) (none : Option Nat)).map nV)) s10 hK2
            have kK2 : (upd H10 K2 (.lst ((addK (addAll ks (mv.map (·.2))) (none : Option Nat)).map nV))) K2 = some (.lst ((addK (addAll ks (mv.map (·.2))) (none : Option Nat)).map nV)) := upd_same
            have nKM : K2 ≠ Ml := fun z => by rw [z, s10 _ _ (s9 _ _ f6)] at hK2; cases hK2
            generalize upd H10 K2 (.lst ((addK (addAll ks (mv.map (·.2))) (none : Option Nat)).map nV)) = H11 at s11 kK2 ⊢
            have e711 : Same H7 H11 := s9.trans s11
            have f6' := e711 _ _ f6
            have mem : (none : Option Nat) ∈ addK (addAll ks (mv.map (·.2))) (none : Option Nat) := addK_mem.mpr (.inr rfl)
            refine ⟨_, rfl, .inl ⟨rfl, _, SqL.of f6'⟩, _, rfl, _, rfl, .inl ⟨rfl, _, SqL.of kK2⟩, _, rfl, ?_⟩
            unfold tNil
            dsimp only
            refine enc_nD.index mem (dp_nkeys kK2) (dp_n (none : Option Nat)) ?_
            refine ⟨by show 2 ≤ sizeLine; decide, fun p2 hp2 => ?_⟩
            have lps := paired_len f7
            rw [List.length_map] at lps
            have s12 := same_upd (o := .tup [V.str ⟨#[c']⟩, .int (ixOf (addK (addAll ks (mv.map (·.2))) (none : Option Nat)) (none : Option Nat) : Nat)]) (Same.refl H11) hp2
            have k12 : (upd H11 p2 (.tup [V.str ⟨#[c']⟩, .int (ixOf (addK (addAll ks (mv.map (·.2))) (none : Option Nat)) (none : Option Nat) : Nat)])) p2 = some (.tup [V.str ⟨#[c']⟩, .int (ixOf (addK (addAll ks (mv.map (·.2))) (none : Option Nat)) (none : Option Nat) : Nat)]) := upd_same
            generalize upd H11 p2 (.tup [V.str ⟨#[c']⟩, .int (ixOf (addK (addAll ks (mv.map (·.2))) (none : Option Nat)) (none : Option Nat) : Nat)]) = H12 at s12 k12 ⊢
            have f6'' := s12 _ _ f6'
            refine ⟨Ml, _, _, rfl, rfl, f6'', by rw [List.length_map, sizeLine_eq]; omega, ?_⟩
            have hle : ∀ b o, (∀ l, o ≠ .lst l) → H12 b = some o → (upd H12 Ml (.lst (ps.map V.ref ++ [.ref p2]))) b = some o := fun b o ho hb => by
              rw [upd_ne (fun z => by rw [z, f6''] at hb; cases hb; exact ho _ rfl)]; exact hb
            have e712 : Same H7 H12 := e711.trans s12
            rw [hs, List.map_append, List.map_append]
            refine ⟨_, _, K2, ps ++ [p2], rfl, same_mut (f1.trans e712) nMl, ?_, by rw [upd_ne nRM]; exact e712 _ _ f4, ?_, by rw [upd_same, List.map_append]; rfl, ?_⟩
            · show _ = some (HO.lst ((addAll ks (mv.map (·.2) ++ [(none : Option Nat)])).map nV))
              rw [addAll_snoc, upd_ne nKM]
              exact s12 _ _ kK2
            · exact L2.Paired.mapP f5 fun b p ⟨d, c1, c2⟩ => ⟨d, hle _ _ (by intro l z; cases z) (e712 _ _ c1), hle _ _ (by intro l z; cases z) (e712 _ _ c2)⟩
            · show Paired _ _ (mv.map (fun p => (p.1, ixOf (addAll ks (mv.map (·.2) ++ [(none : Option Nat)])) p.2)) ++ [(c', ixOf (addAll ks (mv.map (·.2) ++ [(none : Option Nat)])) (none : Option Nat))])
              rw [addAll_snoc]
              have est : mv.map (fun p => (p.1, ixOf (addK (addAll ks (mv.map (·.2))) (none : Option Nat)) p.2)) = mv.map fun p => (p.1, ixOf (addAll ks (mv.map (·.2))) p.2) := List.map_congr_left fun p hp => by
                obtain ⟨l2, hl2⟩ := addK_pre (addAll ks (mv.map (·.2))) (none : Option Nat)
                rw [hl2, ixOf_app (addAll_mem.mpr (.inr (List.mem_map.mpr ⟨p, hp, rfl⟩)))]
              rw [est]
              exact paired_snoc (L2.Paired.mapP f7 fun _ _ h => hle _ _ (by intro l z; cases z) (e712 _ _ h)) (hle _ _ (by intro l z; cases z) k12)
          | some mm =>
            have hs : turNx (sg.take (j + 1)) s1 (some i) = mv ++ [(c', some mm)] := by
              rw [hs]
              show mv ++ [(c', lk (s1.getD i ([], false)).1 c')] = _
              rw [q1]
            simp only [Option.map_some, Option.getD_some]
            refine ⟨_, rfl, _, rfl, by show 1 ≤ sizeLine; decide, fun S hS _ => ?_⟩
            have s9 := same_upd (o := .lst [V.int (mm : Nat)]) (Same.refl H7) hS
            have kS : (upd H7 S (.lst [V.int (mm : Nat)])) S = some (.lst [V.int (mm : Nat)]) := upd_same
            generalize upd H7 S (.lst [V.int (mm : Nat)]) = H9 at s9 kS ⊢
            have f29 := s9 _ _ f2
            refine ⟨_, rfl, _, rfl, nD (some mm), _, dp_n (some mm), dp_nkeys f29, enc_nD.shaped _, enc_nD.shapeds _, ?_⟩
            have key : ∀ b : Bool, ((addAll ks (mv.map (·.2))).map nD).any (fun z => PyData.eqv z (nD (some mm))) = b → ∃ nw : List (Option Nat), (List.replicate (if (!b) = true then (1 : Int) else 0).toNat [V.int (mm : Nat)]).flatten = nw.map nV ∧ nw.length ≤ 1 ∧ addAll ks (mv.map (·.2)) ++ nw = addK (addAll ks (mv.map (·.2))) (some mm) := by
              intro b hb
              unfold addK
              by_cases c2 : (some mm) ∈ addAll ks (mv.map (·.2))
              · rw [enc_nD.any_pos c2] at hb
                subst hb
                exact ⟨[], rfl, Nat.zero_le _, by rw [if_pos c2, List.append_nil]⟩
              · rw [enc_nD.any_neg c2] at hb
                subst hb
                exact ⟨[(some mm)], rfl, Nat.le_refl _, by rw [if_neg c2]⟩
            generalize hb : ((addAll ks (mv.map (·.2))).map nD).any (fun z => PyData.eqv z (nD (some mm))) = b
            obtain ⟨nw, hnw, lnw, pnw⟩ := key b hb
            refine ⟨_, rfl, S, _, _, rfl, rfl, kS, by cases b <;> decide, by cases b <;> decide, ?_, fun S2 hS2 => ?_⟩
            · cases b
              · show 1 * 1 ≤ sizeLine; decide
              · show 1 * 0 ≤ sizeLine; decide
            rw [hnw]
            have s10 := same_upd (o := .lst (nw.map nV)) (Same.refl H9) hS2
            have kS2 : (upd H9 S2 (.lst (nw.map nV))) S2 = some (.lst (nw.map nV)) := upd_same
            generalize upd H9 S2 (.lst (nw.map nV)) = H10 at s10 kS2 ⊢
            refine ⟨Kl, S2, _, _, rfl, rfl, s10 _ _ f29, kS2, by rw [List.length_map, List.length_map, sizeLine_eq]; omega, fun K2 hK2 => ?_⟩
            rw [← List.map_append, pnw]
            have s11 := same_upd (o := .lst ((addK (addAll ks (mv.map (·.2))) (some mm)).map nV)) s10 hK2
            have kK2 : (upd H10 K2 (.lst ((addK (addAll ks (mv.map (·.2))) (some mm)).map nV))) K2 = some (.lst ((addK (addAll ks (mv.map (·.2))) (some mm)).map nV)) := upd_same
            have nKM : K2 ≠ Ml := fun z => by rw [z, s10 _ _ (s9 _ _ f6)] at hK2; cases hK2
            generalize upd H10 K2 (.lst ((addK (addAll ks (mv.map (·.2))) (some mm)).map nV)) = H11 at s11 kK2 ⊢
            have e711 : Same H7 H11 := s9.trans s11
            have f6' := e711 _ _ f6
            have mem : (some mm) ∈ addK (addAll ks (mv.map (·.2))) (some mm) := addK_mem.mpr (.inr rfl)
            refine ⟨_, rfl, .inl ⟨rfl, _, SqL.of f6'⟩, _, rfl, _, rfl, .inl ⟨rfl, _, SqL.of kK2⟩, _, rfl, ?_⟩
            unfold tNil
            dsimp only
            refine enc_nD.index mem (dp_nkeys kK2) (dp_n (some mm)) ?_
            refine ⟨by show 2 ≤ sizeLine; decide, fun p2 hp2 => ?_⟩
            have lps := paired_len f7
            rw [List.length_map] at lps
            have s12 := same_upd (o := .tup [V.str ⟨#[c']⟩, .int (ixOf (addK (addAll ks (mv.map (·.2))) (some mm)) (some mm) : Nat)]) (Same.refl H11) hp2
            have k12 : (upd H11 p2 (.tup [V.str ⟨#[c']⟩, .int (ixOf (addK (addAll ks (mv.map (·.2))) (some mm)) (some mm) : Nat)])) p2 = some (.tup [V.str ⟨#[c']⟩, .int (ixOf (addK (addAll ks (mv.map (·.2))) (some mm)) (some mm) : Nat)]) := upd_same
            generalize upd H11 p2 (.tup [V.str ⟨#[c']⟩, .int (ixOf (addK (addAll ks (mv.map (·.2))) (some mm)) (some mm) : Nat)]) = H12 at s12 k12 ⊢
            have f6'' := s12 _ _ f6'
            refine ⟨Ml, _, _, rfl, rfl, f6'', by rw [List.length_map, sizeLine_eq]; omega, ?_⟩
            have hle : ∀ b o, (∀ l, o ≠ .lst l) → H12 b = some o → (upd H12 Ml (.lst (ps.map V.ref ++ [.ref p2]))) b = some o := fun b o ho hb => by
              rw [upd_ne (fun z => by rw [z, f6''] at hb; cases hb; exact ho _ rfl)]; exact hb
            have e712 : Same H7 H12 := e711.trans s12
            rw [hs, List.map_append, List.map_append]
            refine ⟨_, _, K2, ps ++ [p2], rfl, same_mut (f1.trans e712) nMl, ?_, by rw [upd_ne nRM]; exact e712 _ _ f4, ?_, by rw [upd_same, List.map_append]; rfl, ?_⟩
            · show _ = some (HO.lst ((addAll ks (mv.map (·.2) ++ [(some mm)])).map nV))
              rw [addAll_snoc, upd_ne nKM]
              exact s12 _ _ kK2
            · exact L2.Paired.mapP f5 fun b p ⟨d, c1, c2⟩ => ⟨d, hle _ _ (by intro l z; cases z) (e712 _ _ c1), hle _ _ (by intro l z; cases z) (e712 _ _ c2)⟩
            · show Paired _ _ (mv.map (fun p => (p.1, ixOf (addAll ks (mv.map (·.2) ++ [(some mm)])) p.2)) ++ [(c', ixOf (addAll ks (mv.map (·.2) ++ [(some mm)])) (some mm))])
              rw [addAll_snoc]
              have est : mv.map (fun p => (p.1, ixOf (addK (addAll ks (mv.map (·.2))) (some mm)) p.2)) = mv.map fun p => (p.1, ixOf (addAll ks (mv.map (·.2))) p.2) := List.map_congr_left fun p hp => by
                obtain ⟨l2, hl2⟩ := addK_pre (addAll ks (mv.map (·.2))) (some mm)
                rw [hl2, ixOf_app (addAll_mem.mpr (.inr (List.mem_map.mpr ⟨p, hp, rfl⟩)))]
              rw [est]
              exact paired_snoc (L2.Paired.mapP f7 fun _ _ h => hle _ _ (by intro l z; cases z) (e712 _ _ h)) (hle _ _ (by intro l z; cases z) k12)
      · rintro σ H6 ⟨x6, x7, Kl, ps, rfl, f1, f2, f4, f5, f6, f7⟩
        have e9 : sg.take (SX.S sg).cps.size = sg := List.take_of_length_le (Nat.le_of_eq (len_cps (SX.S sg)).symm)
        rw [e9] at f2 f7
        generalize hks : addAll ks ((turNx sg s1 k).map (·.2)) = ks' at f2 f7
        obtain ⟨l, hl⟩ := addAll_pre (xs := (turNx sg s1 k).map (·.2)) ks
        rw [hks] at hl
        have hkj : ks'[n]? = some k := by rw [hl, List.getElem?_append_left c]; exact hk
        have a' := a.turn hU hk
        rw [hks] at a'
        have hks2 : ks'.length ≤ 31 := Nat.le_trans (nodup_len a'.nd a'.sub) hUl
        have hpa : (ks'.map nV)[n]? = some (nV k) := by rw [List.getElem?_map, hkj]; rfl
        have hmt : ((ks'.take n).map (turSt sg s1 ks')) = (ks.take n).map (turSt sg s1 ks) := by
          rw [hl]
          exact turSts_app (Nat.le_of_lt c) e5
        rw [← hmt] at f5
        have hrow : (rowTu sg s1 ks' k) = (turNx sg s1 k).map fun p => (p.1, ixOf ks' p.2) := rfl
        rw [← hrow] at f7
        have rsub : ((rowTu sg s1 ks' k).map (·.1)).Sublist sg := by
          unfold rowTu
          rw [List.map_map]
          show ((turNx sg s1 k).map (·.1)).Sublist sg
          rw [turNx_fst]
          exact List.Sublist.refl _
        refine ⟨_, rfl, .inl ⟨rfl, _, SqL.of f4⟩, _, rfl, Ml, ps, kRow (rowTu sg s1 ks' k), rfl, SqL.of f6, mv_kvs f7, fun E hE => ?_⟩
        rw [kRow_dict nd rsub]
        have sE := same_upd (o := .dK (kRow (rowTu sg s1 ks' k))) (Same.refl H6) hE
        have kE : (upd H6 E (.dK (kRow (rowTu sg s1 ks' k)))) E = some (.dK (kRow (rowTu sg s1 ks' k))) := upd_same
        generalize upd H6 E (.dK (kRow (rowTu sg s1 ks' k))) = H7 at sE kE ⊢
        have f17 := f1.trans sE
        have f27 := sE _ _ f2
        have lbs : bs.length ≤ 31 := by
          have := paired_len f5
          rw [List.length_map, List.length_take] at this
          omega
        have fin : ∀ g : Bool, g = goodTu s1 k → ∀ T3, H7 T3 = none → ∃ (x5 x6_1 x7_1 : Option V) (Kl_1 : Addr) (bs_1 : List Addr) (ks'_1 : List (Option Nat)), [some (.str (SX.S sg)), some (.ref t1), some (.ref Kl), some (.ref Rl), some (.int ((n : Nat) + 1 : Int)), some (.ref Ml), x6, x7] = [some (.str (SX.S sg)), some (.ref t1), some (.ref Kl_1), some (.ref Rl), some (.int ((n + 1 : Nat) : Int)), x5, x6_1, x7_1] ∧
            Same H (upd (upd H7 T3 (.tup [.ref E, .bl g])) Rl (.lst (bs.map V.ref ++ [.ref T3]))) ∧ (upd (upd H7 T3 (.tup [.ref E, .bl g])) Rl (.lst (bs.map V.ref ++ [.ref T3]))) Kl_1 = some (.lst (ks'_1.map nV)) ∧
            At (fun k => (turNx sg s1 k).map (·.2)) U (turKs sg s1) ks'_1 (n + 1) ∧ (upd (upd H7 T3 (.tup [.ref E, .bl g])) Rl (.lst (bs.map V.ref ++ [.ref T3]))) Rl = some (.lst (bs_1.map V.ref)) ∧ Paired (StAtt (upd (upd H7 T3 (.tup [.ref E, .bl g])) Rl (.lst (bs.map V.ref ++ [.ref T3])))) bs_1 ((ks'_1.take (n + 1)).map (turSt sg s1 ks'_1)) := by
          intro g hg T3 hT3
          have g4' := sE _ _ f4
          have s8 := same_upd (o := .tup [.ref E, .bl g]) (Same.refl H7) hT3
          have k8 : (upd H7 T3 (.tup [.ref E, .bl g])) T3 = some (.tup [.ref E, .bl g]) := upd_same
          generalize upd H7 T3 (.tup [.ref E, .bl g]) = H8 at s8 k8
          have g4'' := s8 _ _ g4'
          have e78 := sE.trans s8
          have hle : ∀ b o, (∀ l, o ≠ .lst l) → H8 b = some o → (upd H8 Rl (.lst (bs.map V.ref ++ [.ref T3]))) b = some o := fun b o ho hb => by
            rw [upd_ne (fun z => by rw [z, g4''] at hb; cases hb; exact ho _ rfl)]; exact hb
          have nKR : Kl ≠ Rl := fun z => by
            rw [z, f4] at f2
            injection f2 with f2
            injection f2 with f2
            have h1 := congrArg List.length f2
            rw [List.length_map, List.length_map] at h1
            have h3 := paired_len f5
            rw [List.length_map, List.length_take] at h3
            have h4 := (List.getElem?_eq_some_iff.mp hkj).1
            omega
          refine ⟨_, _, _, Kl, bs ++ [T3], ks', rfl, same_mut (f1.trans e78) nRl, by rw [upd_ne nKR]; exact e78 _ _ f2, a', by rw [upd_same, List.map_append]; rfl, ?_⟩
          rw [take_snoc hkj, List.map_append]
          refine paired_snoc (L2.Paired.mapP f5 fun b p ⟨d, c1, c2⟩ => ⟨d, hle _ _ (by intro l z; cases z) (e78 _ _ c1), hle _ _ (by intro l z; cases z) (e78 _ _ c2)⟩) ⟨E, ?_, hle _ _ (by intro l z; cases z) (s8 _ _ kE)⟩
          show (_ : Option HO) = some (HO.tup [.ref E, .bl (goodTu s1 k)])
          rw [← hg]
          exact hle _ _ (by intro l z; cases z) k8
        have tail : ∀ T3, H7 T3 = none → ∀ g : Bool, (upd H7 T3 (.tup [.ref E, .bl g])) Rl = some (.lst (bs.map V.ref)) := fun T3 hT3 g => by
          rw [upd_ne (ne_of_none (sE _ _ f4) hT3)]; exact sE _ _ f4
        refine ⟨_, rfl, _, rfl, Kl, _, _, nV k, rfl, rfl, SqL.of f27, atI_nat hpa, rfl, ?_⟩
        cases k with
        | none =>
          refine ⟨_, rfl, iteT ?_⟩
          exact ⟨by show 2 ≤ sizeLine; decide, fun T3 hT3 => ⟨Rl, _, _, rfl, rfl, tail T3 hT3 _, by rw [List.length_map, sizeLine_eq]; omega, _, rfl, _, _, rfl, rfl, fin true rfl T3 hT3⟩⟩
        | some i =>
          have kb := kb i rfl
          obtain ⟨b1, d1, b1e, b1t, b1r⟩ := at1 i kb
          refine ⟨_, rfl, iteF ?_⟩
          refine ⟨_, rfl, _, rfl, _, rfl, Kl, _, _, .int (i : Nat), rfl, rfl, SqL.of f27, atI_nat hpa, t1, _, _, .ref b1, rfl, rfl, SqT.of (f17 _ _ ht1), atI_nat b1e, b1, _, 1, .bl (s1.getD i ([], false)).2, rfl, rfl, SqT.of (f17 _ _ b1t), rfl, _, rfl, ?_⟩
          exact ⟨by show 2 ≤ sizeLine; decide, fun T3 hT3 => ⟨Rl, _, _, rfl, rfl, tail T3 hT3 _, by rw [List.length_map, sizeLine_eq]; omega, _, rfl, _, _, rfl, rfl, fin _ rfl T3 hT3⟩⟩
    · rw [decide_eq_false (show ¬ ((n : Nat) : Int) < (ks.length : Nat) by omega)]
      refine iteF ?_
      have eR := a.done (by omega)
      have en : n = ks.length := by have := a.le; omega
      rw [en, List.take_of_length_le (Nat.le_refl _)] at g5
      refine ⟨_, rfl, Rl, _, rfl, .inl ⟨SqL.of g4, fun u hu => ?_⟩⟩
      have e6 := same_upd (o := .tup (bs.map V.ref)) (Same.refl H4) hu
      refine k u _ (g1.trans e6) ⟨bs, upd_same, ?_⟩
      rw [turned_eq, ← eR]
      exact L2.Paired.mapP g5 fun _ _ h => h.le e6
end
end Fs
namespace Fs
open PySem PySem.Spec PyProof.Rows L2 SlX RZ
/-! ### a set of tuples of numbers and texts: the questions asked of a member -/
abbrev tupH (P : Program) (w : World) (k : List Key) : Int := tupleKeyHash (mixKind P w) k
abbrev IsTup (P : Program) (w : World) (h : Heap) (k : List Key) (b : Addr) : Prop := IsTupleKey (mixKind P w) h k b
section
variable {P : Program} {w : World} {A : Around} {E : Value → Shared → Prop} {s : Shared}
/-- a number or a text -/
def Atom (v : Value) : Prop := (∃ i t, v = .int i t) ∨ ∃ x t, v = .str x t
theorem atoms {k : List Key} {vs : List Value} (h : ItemsAre (mixKind P w) k vs) : ∀ v ∈ vs, Atom v := by
  induction h with
  | nil => intro v hv; cases hv
  | cons q _ ih =>
    intro v hv
    cases hv with
    | head =>
      rcases keyIs_shape q with ⟨i, t, _, e⟩ | ⟨x, t, _, e⟩
      · exact .inl ⟨i, t, e⟩
      · exact .inr ⟨x, t, e⟩
    | tail _ hv => exact ih v hv
theorem atom_class {v : Value} (h : Atom v) (n : Nat) : ofAClassStatement n v = pure false := by
  rcases h with ⟨i, t, rfl⟩ | ⟨x, t, rfl⟩ <;> cases n <;> rfl
theorem atom_hash {v : Value} (h : Atom v) (n : Nat) : ∃ c, hashByValue n v = pure c := by
  rcases h with ⟨i, t, rfl⟩ | ⟨x, t, rfl⟩
  · exact ⟨true, by cases n <;> rfl⟩
  · exact ⟨false, by cases n <;> rfl⟩
theorem tup_class {k : List Key} {b : Addr} {Q : Bool → Shared → Prop} (hk : IsTup P w s.heap k b) (q : Q false s) : wpAny (model P w) A (ofAClassStatement 8 (.ref b)) Q E s := by
  have ty := hk.typeIs
  obtain ⟨o, its, n, g, _, d, r⟩ := hk
  have al := atoms r
  unfold ofAClassStatement
  apply wpAny_bind
  apply wpAny_typeOf ty
  dsimp only
  simp only [show (("tuple" : String) == "tuple") = true from by decide, if_true, Bool.not_true, Bool.false_eq_true, if_false]
  try refine wpAny_bind (wpAny_pure ?_)
  try simp only [Bool.not_true, Bool.false_eq_true, if_false]
  show wpAny _ A (seqItems? (.ref b) >>= _) Q E s
  apply wpAny_bind
  apply wpAny_seqItems g d
  dsimp only
  apply wpAny_bind
  show wpAny _ A (forIn its _ _) _ E s
  rw [← Array.forIn_toList]
  refine wpAny_forIn_list _ (fun more acc z => acc.1 = none ∧ z = s ∧ ∀ v ∈ more, Atom v) _ (fun v more acc z => ?_) (fun acc z => ?_) _ _ ⟨rfl, rfl, al⟩
  · rintro ⟨e, rfl, m⟩
    rw [atom_class (m v List.mem_cons_self)]
    apply wpAny_bind
    apply wpAny_pure
    simp only [Bool.false_eq_true, if_false]
    exact wpAny_pure ⟨rfl, rfl, fun u hu => m u (List.mem_cons_of_mem _ hu)⟩
  · obtain ⟨c1, c2⟩ := acc
    rintro ⟨e, rfl, _⟩
    dsimp only at e
    subst e
    exact wpAny_pure q
theorem tup_hashBy {k : List Key} {b : Addr} {Q : Bool → Shared → Prop} (hk : IsTup P w s.heap k b) (q : ∀ c, Q c s) : wpAny (model P w) A (hashByValue 8 (.ref b)) Q E s := by
  have ty := hk.typeIs
  obtain ⟨o, its, n, g, _, d, r⟩ := hk
  have al := atoms r
  unfold hashByValue
  apply wpAny_bind
  apply wpAny_specialOf ty F.slot_tuple_hash.lookup
  show wpAny _ A (seqItems? (.ref b) >>= _) Q E s
  apply wpAny_bind
  apply wpAny_seqItems g d
  apply wpAny_bind
  show wpAny _ A (forIn its _ _) _ E s
  rw [← Array.forIn_toList]
  refine wpAny_forIn_list _ (fun more acc z => acc.1 = none ∧ z = s ∧ ∀ v ∈ more, Atom v) _ (fun v more acc z => ?_) (fun acc z => ?_) _ _ ⟨rfl, rfl, al⟩
  · rintro ⟨e, rfl, m⟩
    obtain ⟨c, ec⟩ := atom_hash (m v List.mem_cons_self) 7
    rw [ec]
    apply wpAny_bind
    apply wpAny_pure
    cases c
    · exact wpAny_pure (wpAny_pure (q false))
    · exact wpAny_pure ⟨rfl, rfl, fun u hu => m u (List.mem_cons_of_mem _ hu)⟩
  · obtain ⟨c1, c2⟩ := acc
    rintro ⟨e, rfl, _⟩
    dsimp only at e
    subst e
    exact wpAny_pure (q true)
theorem tup_seen {k : List Key} {b : Addr} {Q : Bool → Shared → Prop} (hk : IsTup P w s.heap k b) {ys : List Value} (hy : ∀ y ∈ ys, ∃ k2 c, y = Value.ref c ∧ IsTup P w s.heap k2 c) (q : Q false s) :
    wpAny (model P w) A (searchCouldBeSeen (.ref b) ys) Q E s := by
  unfold searchCouldBeSeen
  apply wpAny_bind
  refine wpAny_forIn_list _ (fun more acc z => acc.1 = none ∧ z = s ∧ ∀ y ∈ more, ∃ k2 c, y = Value.ref c ∧ IsTup P w s.heap k2 c) _ (fun v more acc z => ?_) (fun acc z => ?_) _ _ ⟨rfl, rfl, hy⟩
  · rintro ⟨e, rfl, m⟩
    obtain ⟨k2, c, rfl, hc⟩ := m v List.mem_cons_self
    have m2 : ∀ y ∈ more, ∃ k2 c, y = Value.ref c ∧ IsTup P w z.heap k2 c := fun u hu => m u (List.mem_cons_of_mem _ hu)
    dsimp only
    cases very : (b == c || (carriedByValue (.ref b) && carriedByValue (.ref c)))
    · apply wp_if_neg (by decide)
      apply wpAny_bind
      apply wpAny_eqIsQuiet_tuple hk
      simp only [Bool.not_true, Bool.false_eq_true, if_false]
      apply wpAny_bind
      apply wpAny_eqIsQuiet_tuple hc
      simp only [Bool.not_true, Bool.false_eq_true, if_false]
      apply wpAny_bind
      apply tup_class hk
      simp only [Bool.false_eq_true, if_false]
      apply wpAny_bind
      apply tup_class hc
      simp only [Bool.false_eq_true, if_false]
      exact wpAny_pure ⟨rfl, rfl, m2⟩
    · apply wp_if_pos (by decide)
      exact wpAny_pure ⟨rfl, rfl, m2⟩
  · obtain ⟨c1, c2⟩ := acc
    rintro ⟨e, rfl, _⟩
    dsimp only at e
    subst e
    exact wpAny_pure q

/-! ### the set -/
def rowT (P : Program) (w : World) (q : Addr × List Key) : Int × Value := (tupH P w q.2, Value.ref q.1)
/-- the set at a: M its members, each with its address -/
structure TSet (P : Program) (w : World) (h : Heap) (a : Addr) (M : List (Addr × List Key)) (es : Array (Int × Value)) (ep : Nat) (t : SetTable) : Prop where
  obj : ∃ o, h.get? a = some o ∧ o.ExactSet ∧ o.data = .set es ep t
  rows : es.toList = M.map (rowT P w)
  tab : TabOk t (M.map fun q => tupH P w q.2)
  nd : (M.map (·.2)).Nodup
  isT : ∀ q ∈ M, IsTup P w h q.2 q.1
  led : w.params.followText "set-order" = true ∨ t.led = true
  room : M.length * 5 < t.mask * 3
  few : M.length < 16
variable {a : Addr} {M : List (Addr × List Key)} {es : Array (Int × Value)} {ep : Nat} {t : SetTable}
theorem TSet.size {h : Heap} (R : TSet P w h a M es ep t) : es.size = M.length := by
  rw [← Array.length_toList, R.rows, List.length_map]
theorem fits_of {n : Nat} (c1 : t.place.size = n) (c2 : t.dummies = #[]) (c3 : n ≤ t.mask) : t.fits n = true := by
  unfold SetTable.fits SetTable.fill
  rw [c2, Bool.and_eq_true, beq_iff_eq, decide_eq_true_eq]
  exact ⟨c1, by show t.place.size + 0 ≤ t.mask; omega⟩
theorem TSet.fits {h : Heap} (R : TSet P w h a M es ep t) : t.fits es.size = true := by
  have c1 := R.tab.sz
  rw [List.length_map] at c1
  have c2 := R.size
  have c3 := R.room
  exact fits_of (by omega) R.tab.dm (by omega)
theorem TSet.entry {h : Heap} (R : TSet P w h a M es ep t) {i : Nat} {q : Addr × List Key} (e : M[i]? = some q) : es[i]? = some (tupH P w q.2, Value.ref q.1) := by
  rw [← Array.getElem?_toList, R.rows, List.getElem?_map, e]
  rfl
theorem no_dummy (m : Nat) : ∀ (n : Nat) (p : SetTable.Probe), p.dummy = none → (nth m p n).dummy = none
  | 0, _, e => e
  | n + 1, p, e => no_dummy m n (adv m p) (by unfold adv; split <;> exact e)
/-- the search from the c-th step of the way on; at its K-th step is the first empty slot -/
theorem TSet.srch (R : TSet P w s.heap a M es ep t) {x : Addr} {k : List Key} (hx : IsTup P w s.heap k x) (hu : A.units < cLine) {K : Nat} (near : K < 10 * SetTable.turns t.mask)
    (free : way t.mask (tupH P w k) K ∉ t.place.toList) (full : ∀ c, c < K → way t.mask (tupH P w k) c ∈ t.place.toList) {Q : SetFound → Shared → Prop}
    (met : k ∈ M.map (·.2) → Q (.there none) s) (gone : k ∉ M.map (·.2) → Q (.free (way t.mask (tupH P w k) K) false) s) :
    ∀ (fuel c : Nat) (st : Option SetTable.Probe), st.getD (t.probeStart (tupH P w k)) = nth t.mask (runAt t.mask (SetTable.bits (tupH P w k) % (t.mask + 1)) (SetTable.bits (tupH P w k))) c → c ≤ K → K < c + fuel →
      (∀ (i : Nat) q, M[i]? = some q → q.2 = k → ∀ b, b < c → t.place.toList[i]? ≠ some (way t.mask (tupH P w k) b)) → wpAny (model P w) A (setSearchFrom a (.ref x) (tupH P w k) true fuel st) Q E s := by
  intro fuel
  induction fuel with
  | zero => intro c st _ h1 h2; omega
  | succ fuel ih =>
    intro c st start le lt past
    obtain ⟨o, g, ex, d⟩ := R.obj
    have fits := R.fits
    rw [setSearchFrom_succ]
    apply wpAny_bind
    apply wpAny_setState_of g d fits
    dsimp only
    apply wp_if_neg (by unfold SetTable.gaveWay; rw [mask_odd R.tab.mok]; decide)
    try refine wpAny_bind (wpAny_pure ?_)
    have step : ∀ n, nth t.mask (nth t.mask (runAt t.mask (SetTable.bits (tupH P w k) % (t.mask + 1)) (SetTable.bits (tupH P w k))) c) n = nth t.mask (runAt t.mask (SetTable.bits (tupH P w k) % (t.mask + 1)) (SetTable.bits (tupH P w k))) (c + n) :=
      fun n => (nth_add t.mask c _ n).symm
    have hashOf : ∀ (i : Nat) q, M[i]? = some q → ((es[i]?.map (·.1)).getD 0) = tupH P w q.2 := fun i q e => by rw [R.entry e]; rfl
    have sp := go_spec t R.tab.ris R.tab.dm (fun i => (es[i]?.map (·.1)).getD 0) (tupH P w k) (10 * SetTable.turns t.mask) (K - c) _ (no_dummy t.mask c (runAt t.mask (SetTable.bits (tupH P w k) % (t.mask + 1)) (SetTable.bits (tupH P w k))) rfl) (by omega)
      (fun n hn => by rw [step]; exact full (c + n) (by omega)) (by rw [step, show c + (K - c) = K by omega]; exact free)
    rcases sp with ⟨n, i, hn, hi, hh, no, go⟩ | ⟨no, go⟩
    · rw [step] at hi
      rw [step, step, ← start] at go
      rw [show t.probe (fun i => (es[i]?.map (·.1)).getD 0) (tupH P w k) (st.getD (t.probeStart (tupH P w k))) = _ from go]
      dsimp only
      have il : i < M.length := by
        have c1 : i < t.place.toList.length := (List.getElem?_eq_some_iff.mp hi).1
        have c2 := R.tab.sz
        rw [List.length_map] at c2
        rw [Array.length_toList] at c1
        omega
      obtain ⟨q, hq⟩ : ∃ q, M[i]? = some q := ⟨_, List.getElem?_eq_getElem il⟩
      have hm := List.mem_of_getElem? hq
      have live := slot_live R.tab.ris hi
      have rest : wpAny (model P w) A (searchRest a (.ref x) (tupH P w k) true fuel es t (way t.mask (tupH P w k) (c + n)) i (nth t.mask (runAt t.mask (SetTable.bits (tupH P w k) % (t.mask + 1)) (SetTable.bits (tupH P w k))) (c + (n + 1)))) Q E s := by
        unfold searchRest
        rw [R.entry hq]
        dsimp only
        apply wpAny_bind
        apply wpAny_holding
        apply wpAny_eqBool_tuple hu (R.isT q hm) hx
        apply wpAny_bind
        apply wpAny_setState_of g d fits
        dsimp only
        by_cases same : q.2 = k
        · apply wp_if_pos (by simp [same])
          exact wpAny_pure (met (List.mem_map.mpr ⟨q, hm, same⟩))
        · apply wp_if_neg (by simp [same])
          try refine wpAny_bind (wpAny_pure ?_)
          rw [sameMem]
          dsimp only
          simp only [if_true, live, R.entry hq]
          apply wpAny_bind
          refine wpAny_isSame_ref_self ?_
          apply wpAny_bind
          apply wpAny_pure
          simp only [if_true]
          apply wp_if_neg (by simp [same])
          refine ih (c + (n + 1)) _ rfl (by omega) (by omega) fun i2 q2 h2 k2 b lb at_ => ?_
          rcases Nat.lt_trichotomy b (c + n) with z | z | z
          · by_cases z2 : b < c
            · exact past i2 q2 h2 k2 b z2 at_
            · exact no (b - c) i2 (by omega) (by rw [step, show c + (b - c) = b by omega]; exact at_) ((hashOf i2 q2 h2).trans (by rw [k2]))
          · subst z
            have l2 := slot_live R.tab.ris at_
            rw [live] at l2
            injection l2 with l2
            subst l2
            rw [hq] at h2
            cases h2
            exact same k2
          · omega
      by_cases hl : t.led = true
      · apply wp_if_neg (by simp [hl])
        try refine wpAny_bind (wpAny_pure ?_)
        exact rest
      · apply wp_if_pos (by simp [hl])
        apply wpAny_bind
        refine tup_seen hx (fun y hy => ?_) ?_
        · obtain ⟨r, hr, er⟩ := List.mem_map.mp hy
          have hr2 : r ∈ es.toList := by
            have z : r ∈ es ∧ r.1 = tupH P w k := by simpa using hr
            simpa using z.1
          rw [R.rows] at hr2
          obtain ⟨q2, m2, e2⟩ := List.mem_map.mp hr2
          exact ⟨q2.2, q2.1, by rw [← er, ← e2]; rfl, R.isT q2 m2⟩
        · apply wp_if_neg (by decide)
          try refine wpAny_bind (wpAny_pure ?_)
          exact rest
    · rw [step, show c + (K - c) = K by omega, ← start] at go
      rw [show t.probe (fun i => (es[i]?.map (·.1)).getD 0) (tupH P w k) (st.getD (t.probeStart (tupH P w k))) = _ from go]
      dsimp only
      refine wpAny_pure (gone fun hm => ?_)
      obtain ⟨q, m, e⟩ := List.mem_map.mp hm
      obtain ⟨i, il, ei⟩ := List.getElem_of_mem m
      have hq : M[i]? = some q := by rw [List.getElem?_eq_getElem il, ei]
      have pl : i < t.place.toList.length := by
        have c2 := R.tab.sz
        rw [List.length_map] at c2
        rw [Array.length_toList]
        omega
      have hj := List.getElem?_eq_getElem pl
      obtain ⟨b, hb, eb⟩ := R.tab.before free (i := i) (h := tupH P w k) (by rw [List.getElem?_map, hq, ← e]; rfl) hj
      by_cases z : b < c
      · exact past i q hq e b z (by rw [hj, eb])
      · exact no (b - c) i (by omega) (by rw [step, show c + (b - c) = b by omega, hj, ← eb]) ((hashOf i q hq).trans (by rw [e]))
/-- the search that add makes -/
theorem TSet.find (R : TSet P w s.heap a M es ep t) {x : Addr} {k : List Key} (hx : IsTup P w s.heap k x) (hu : A.units < cLine) {Q : SetFound → Shared → Prop} (met : k ∈ M.map (·.2) → Q (.there none) s)
    (gone : ∀ K, k ∉ M.map (·.2) → way t.mask (tupH P w k) K ∉ t.place.toList → (∀ c, c < K → way t.mask (tupH P w k) c ∈ t.place.toList) → Q (.free (way t.mask (tupH P w k) K) false) s) :
    wpAny (model P w) A (setSearch a (.ref x) (tupH P w k) true) Q E s := by
  have rm := R.room
  obtain ⟨K, near, free, full⟩ := R.tab.first (by rw [List.length_map]; omega) (tupH P w k)
  have bound : K < 0 + 100000 := by
    have : 10 * SetTable.turns t.mask ≤ 1420 := by
      unfold SetTable.turns
      rcases R.tab.mok with e | e | e <;> omega
    omega
  exact R.srch hx hu near free full met (fun n => gone K n free full) 100000 0 none rfl (Nat.zero_le _) bound fun _ _ _ _ b hb => absurd hb (Nat.not_lt_zero _)
/-! ### the table laid anew -/
theorem pick_all {α : Type} : ∀ M : List α, (List.range M.length).filterMap (fun i => M[i]?) = M
  | [] => rfl
  | x :: M => by
    rw [List.length_cons, List.range_succ_eq_map, List.filterMap_cons, List.filterMap_map]
    show x :: List.filterMap (fun i => M[i]?) (List.range M.length) = x :: M
    rw [pick_all M]
theorem pick_map {α : Type} (f : α → Int) (M : List α) : ∀ ns : List Nat, (∀ i ∈ ns, i < M.length) → (ns.filterMap fun i => M[i]?).map f = ns.map fun i => ((M.map f)[i]?).getD 0
  | [], _ => rfl
  | i :: ns, h => by
    have e := List.getElem?_eq_getElem (h i List.mem_cons_self)
    have e2 : ((M.map f)[i]?).getD 0 = f (M[i]'(h i List.mem_cons_self)) := by rw [List.getElem?_map, e]; rfl
    rw [List.filterMap_cons, e]
    show f _ :: List.map f _ = ((M.map f)[i]?).getD 0 :: List.map (fun i => ((M.map f)[i]?).getD 0) ns
    rw [pick_map f M ns fun j hj => h j (List.mem_cons_of_mem _ hj), e2]
theorem TSet.relay {o : Obj} (g : s.heap.get? a = some o) (ex : o.ExactSet) (d : o.data = .set es ep t) (rows : es.toList = M.map (rowT P w)) (ft : t.fits es.size = true)
    (nd : (M.map (·.2)).Nodup) (isT : ∀ q ∈ M, IsTup P w s.heap q.2 q.1) (ld : w.params.followText "set-order" = true ∨ t.led = true) (few : M.length < 16) {wanted : Nat} (hw : SetTable.sizeAbove wanted = 32) {Q : Unit → Shared → Prop}
    (fin : ∀ h' M' es' ep' t', Heap.SameBut a s.heap h' → TSet P w h' a M' es' ep' t' → M'.Perm M → Q () { s with heap := h' }) : wpAny (model P w) A (setRelay a wanted) Q E s := by
  have hsz : es.size = M.length := by rw [← Array.length_toList, rows, List.length_map]
  obtain ⟨t2, order, e, pm, T, e1, e2, _, e4⟩ := relaid_ok t (hs := es.map (·.1)) (wanted := wanted) (M := 31) (by rw [hw]) (.inr (.inl rfl)) (by rw [Array.size_map]; omega)
  rw [Array.size_map, hsz] at pm
  have le : ∀ i ∈ order.toList, i < M.length := fun i hi => List.mem_range.mp (pm.mem_iff.mp hi)
  have pmM : (order.toList.filterMap fun i => M[i]?).Perm M := by
    have z := pm.filterMap fun i => M[i]?
    rw [pick_all] at z
    exact z
  have rows2 : (order.filterMap (es[·]?)).toList = (order.toList.filterMap fun i => M[i]?).map (rowT P w) := by
    rw [Array.toList_filterMap, List.map_filterMap]
    congr 1
    funext i
    rw [← Array.getElem?_toList, rows, List.getElem?_map]
  have T2 : TabOk t2 ((order.toList.filterMap fun i => M[i]?).map fun q => tupH P w q.2) := by
    rw [pick_map _ M order.toList le]
    have z : (fun i => (es.map (·.1)).getD i 0) = fun i => ((M.map fun q => tupH P w q.2)[i]?).getD 0 := by
      funext i
      rw [Array.getD_eq_getD_getElem?, ← Array.getElem?_toList, Array.toList_map, rows, List.map_map]
      rfl
    rw [z] at T
    exact T
  generalize order.toList.filterMap (fun i => M[i]?) = M2 at pmM rows2 T2
  have sz2 : (order.filterMap (es[·]?)).size = es.size := by rw [← Array.length_toList, rows2, List.length_map, pmM.length_eq, hsz]
  rw [setRelay_eq]
  apply wpAny_bind
  apply wpAny_setState_of g d ft
  dsimp only
  apply wp_if_neg (by rw [hw, sizeLine_eq]; decide)
  try refine wpAny_bind (wpAny_pure ?_)
  rw [e]
  dsimp only
  apply wpAny_bind
  apply wp_if_neg (by rw [sz2]; simp)
  try refine wpAny_bind (wpAny_pure ?_)
  apply wpAny_pure
  dsimp only
  refine wpAny_storeSet_of g d ?_ (by rw [sz2, hsz, sizeLine_eq]; omega)
  have sb : Heap.SameBut a s.heap (s.heap.update a (Obj.putSet (order.filterMap (es[·]?)) t2)) := Heap.SameBut.update ..
  refine fin _ M2 (order.filterMap (es[·]?)) (ep + 1) t2 sb ⟨⟨_, store_at g d, ⟨ex.1, ex.2.1, ex.2.2⟩, rfl⟩, rows2, T2, (pmM.map (·.2)).nodup_iff.mpr nd, fun q hq => ?_, by rw [e2]; exact ld, by rw [pmM.length_eq, e1]; omega, by rw [pmM.length_eq]; exact few⟩ pmM
  obtain ⟨o2, its, n, g2, c2, d2, r⟩ := isT q (pmM.mem_iff.mp hq)
  refine ⟨o2, its, n, (sb.2 q.1 fun z => ?_).trans g2, c2, d2, r⟩
  rw [z, g] at g2
  cases g2
  rw [d] at d2
  cases d2
end
end Fs
namespace Fs
open PySem PySem.Spec PyProof.Rows L2 SlX RZ SrtO
section
variable {P : Program} {w : World} {A : Around} {E : Value → Shared → Prop} {s : Shared}
variable {a : Addr} {M : List (Addr × List Key)} {es : Array (Int × Value)} {ep : Nat} {t : SetTable}
/-! ### a member more -/
theorem tup_same {h h' : Heap} {k : List Key} {b : Addr} {o : Obj} (hb : IsTup P w h k b) (g : h.get? a = some o) (d : o.data = .set es ep t) (sb : Heap.SameBut a h h') : IsTup P w h' k b := by
  obtain ⟨o2, its, n, g2, c2, d2, r⟩ := hb
  refine ⟨o2, its, n, (sb.2 b fun z => ?_).trans g2, c2, d2, r⟩
  rw [z, g] at g2
  cases g2
  rw [d] at d2
  cases d2
theorem tup_keep {h h' : Heap} {k : List Key} {b : Addr} (hb : IsTup P w h k b) (kp : ∀ c o, h.get? c = some o → h'.get? c = some o) : IsTup P w h' k b := by
  obtain ⟨o2, its, n, g2, r⟩ := hb
  exact ⟨o2, its, n, kp b o2 g2, r⟩
theorem TSet.keep {h h' : Heap} (R : TSet P w h a M es ep t) (ka : ∀ o, h.get? a = some o → h'.get? a = some o) (kt : ∀ q ∈ M, IsTup P w h' q.2 q.1) : TSet P w h' a M es ep t := by
  obtain ⟨o, g, r⟩ := R.obj
  exact ⟨⟨o, ka o g, r⟩, R.rows, R.tab, R.nd, kt, R.led, R.room, R.few⟩
theorem hash_any {β : Type} {k : List Key} {b : Addr} {c : Bool} {f : Bool → Sem β} {Q : β → Shared → Prop} (hk : IsTup P w s.heap k b) (go : ∀ c, wpAny (model P w) A (f c) Q E s) :
    wpAny (model P w) A ((if c = true then hashByValue 8 (.ref b) else pure true) >>= f) Q E s := by
  apply wpAny_bind
  cases c
  · apply wp_if_neg (by decide)
    exact wpAny_pure (go true)
  · apply wp_if_pos rfl
    exact tup_hashBy hk go
theorem hash_any2 {β : Type} {k : List Key} {b : Addr} {c : Bool} {f : Bool → Sem β} {Q : β → Shared → Prop} (hk : IsTup P w s.heap k b) (go : ∀ c, wpAny (model P w) A (f c) Q E s) :
    wpAny (model P w) A (if c = true then hashByValue 8 (.ref b) >>= f else pure true >>= f) Q E s := by
  cases c
  · apply wp_if_neg (by decide)
    exact wpAny_bind (wpAny_pure (go true))
  · apply wp_if_pos rfl
    exact wpAny_bind (tup_hashBy hk go)
theorem TSet.add (R : TSet P w s.heap a M es ep t) {x : Addr} {k : List Key} (hx : IsTup P w s.heap k x) (hu : A.units < cLine) (room : M.length + 1 < 16) {Q : Bool → Shared → Prop}
    (fin : ∀ b h' M' es' ep' t', Heap.SameBut a s.heap h' → TSet P w h' a M' es' ep' t' → (k ∈ M.map (·.2) → M' = M) → (k ∉ M.map (·.2) → M'.Perm ((x, k) :: M)) → Q b { s with heap := h' }) :
    wpAny (model P w) A (setAddHashed a (.ref x) (tupH P w k)) Q E s := by
  obtain ⟨o, g, ex, d⟩ := R.obj
  have fits := R.fits
  have hsz := R.size
  have hroom := R.room
  unfold setAddHashed
  apply wpAny_holding
  rw [show (100000 : Nat) = 99999 + 1 from rfl, setAddHashedIn_succ]
  apply wpAny_bind
  apply wpAny_setState_of g d fits
  dsimp only
  apply wp_if_neg (by simp [byScan, Value.scannable])
  try refine wpAny_bind (wpAny_pure ?_)
  apply wpAny_bind
  refine R.find hx hu (fun m => ?_) fun K m free full => ?_
  · dsimp only
    exact wpAny_pure (fin false s.heap M es ep t (Heap.SameBut.refl a s.heap) R (fun _ => rfl) fun z => absurd m z)
  · dsimp only
    apply wpAny_bind
    apply wpAny_setState_of g d fits
    dsimp only
    obtain ⟨q1, q2, q3, q4, q5, _, _, _, q9⟩ := R.tab.put free full
    generalize t.put (way t.mask (tupH P w k) K) = pt at q1 q3 q4 q5 q9 ⊢
    obtain ⟨t1, p⟩ := pt
    dsimp only at q1 q3 q4 q5 q9 ⊢
    subst q1
    have rows1 : (SetTable.insertAt es (SetTable.below t.place (way t.mask (tupH P w k) K)) (tupH P w k, Value.ref x)).toList = (M.take (SetTable.below t.place (way t.mask (tupH P w k) K)) ++ (x, k) :: M.drop (SetTable.below t.place (way t.mask (tupH P w k) K))).map (rowT P w) := by
      rw [SetTable.toList_insertAt, R.rows, List.map_append, List.map_cons, List.map_take, List.map_drop]
      rfl
    have T1 : TabOk t1 ((M.take (SetTable.below t.place (way t.mask (tupH P w k) K)) ++ (x, k) :: M.drop (SetTable.below t.place (way t.mask (tupH P w k) K))).map fun q => tupH P w q.2) := by
      rw [List.map_append, List.map_cons, List.map_take, List.map_drop]
      exact q3
    have pm := put_perm M (SetTable.below t.place (way t.mask (tupH P w k) K)) (x, k)
    generalize SetTable.insertAt es (SetTable.below t.place (way t.mask (tupH P w k) K)) (tupH P w k, Value.ref x) = es1 at rows1 ⊢
    generalize M.take (SetTable.below t.place (way t.mask (tupH P w k) K)) ++ (x, k) :: M.drop (SetTable.below t.place (way t.mask (tupH P w k) K)) = M1 at rows1 T1 pm
    have len1 : M1.length = M.length + 1 := pm.length_eq
    have sz1 : es1.size = M.length + 1 := by rw [← Array.length_toList, rows1, List.length_map, len1]
    have nd1 : (M1.map (·.2)).Nodup := (pm.map (·.2)).nodup_iff.mpr (List.nodup_cons.mpr ⟨m, R.nd⟩)
    have f1 : t1.fill = M.length + 1 := by rw [q9, List.length_map]
    have p1 : t1.place.size = es1.size := by
      have z := T1.sz
      rw [List.length_map, len1] at z
      rw [z, sz1]
    have tail : ∀ t2 : SetTable, TabOk t2 (M1.map fun q => tupH P w q.2) → t2.mask = t1.mask → t2.led = t1.led → t2.fill = t1.fill →
        ∀ h1, Heap.SameBut a s.heap h1 → (∃ o, h1.get? a = some o ∧ o.ExactSet ∧ o.data = .set es1 (ep + 1) t2) → 
          (t2.tooFull = true → wpAny (model P w) A (setRelay a (SetTable.grown (es.size + 1))) (fun _ s' => Q true s') E { s with heap := h1 }) ∧ (¬ t2.tooFull = true → Q true { s with heap := h1 }) := by
      intro t2 T2 em el ef h1 sb ⟨o1, g1, ex1, d1⟩
      have tups : ∀ q ∈ M1, IsTup P w h1 q.2 q.1 := fun q hq => by
        rcases List.mem_cons.mp (pm.mem_iff.mp hq) with e | hq
        · rw [e]
          exact tup_same hx g d sb
        · exact tup_same (R.isT q hq) g d sb
      have ld : w.params.followText "set-order" = true ∨ t2.led = true := by rw [el, q5]; exact R.led
      have ft : t2.fits es1.size = true := fits_of (by have z := T2.sz; rw [List.length_map, len1] at z; rw [z, sz1]) T2.dm (by rw [em, q4, sz1]; omega)
      have tf : t2.tooFull = decide ((M.length + 1) * 5 ≥ t.mask * 3) := by
        unfold SetTable.tooFull
        rw [ef, f1, em, q4]
      rw [tf]
      constructor
      · intro full
        have full := of_decide_eq_true full
        have c4 : M.length = 4 := by
          rcases R.tab.mok with e | e | e <;> rw [e] at full hroom <;> omega
        refine TSet.relay (s := { s with heap := h1 }) g1 ex1 d1 rows1 ft nd1 tups ld (by omega) (by rw [hsz, c4, size_20]) ?_
        intro h2 M2 es2 ep2 t3 sb2 R2 pm2
        exact fin true h2 M2 es2 ep2 t3 (sb.trans sb2) R2 (fun z => absurd z m) fun _ => pm2.trans pm
      · intro notFull
        refine fin true h1 M1 es1 (ep + 1) t2 sb ⟨⟨o1, g1, ex1, d1⟩, rows1, T2, nd1, tups, ld, ?_, by omega⟩ (fun z => absurd z m) fun _ => pm
        rw [em, q4, len1]
        have z : ¬ (M.length + 1) * 5 ≥ t.mask * 3 := fun z => notFull (decide_eq_true z)
        omega
    first
      | refine hash_any hx fun c => ?_
      | refine hash_any2 hx fun c => ?_
    have T3 : TabOk (if c = true then t1 else { t1 with plain := false }) (M1.map fun q => tupH P w q.2) := by
      cases c
      · exact ⟨T1.ris, T1.dm, T1.sz, T1.mok, T1.bd, T1.reach⟩
      · exact T1
    have em : (if c = true then t1 else { t1 with plain := false }).mask = t1.mask := by cases c <;> rfl
    have el : (if c = true then t1 else { t1 with plain := false }).led = t1.led := by cases c <;> rfl
    have ef : (if c = true then t1 else { t1 with plain := false }).fill = t1.fill := by cases c <;> rfl
    generalize (if c = true then t1 else { t1 with plain := false }) = t2 at T3 em el ef ⊢
    refine wpAny_bind (wpAny_storeSet_of g d ?_ (by rw [sz1, sizeLine_eq]; omega))
    obtain ⟨y1, y2⟩ := tail t2 T3 em el ef (s.heap.update a (Obj.putSet es1 t2)) (Heap.SameBut.update ..) ⟨_, store_at g d, ⟨ex.1, ex.2.1, ex.2.2⟩, rfl⟩
    by_cases full2 : t2.tooFull = true
    · first
        | (apply wpAny_bind; apply wp_if_pos (by simp [full2]); refine wpAny_mono (y1 full2) (fun _ _ z => ?_) (fun _ _ z => z); exact wpAny_pure z)
        | (apply wp_if_pos (by simp [full2]); apply wpAny_bind; refine wpAny_mono (y1 full2) (fun _ _ z => ?_) (fun _ _ z => z); exact wpAny_pure z)
    · first
        | (apply wpAny_bind; apply wp_if_neg (by simp [full2]); apply wpAny_pure; exact wpAny_pure (y2 full2))
        | (apply wp_if_neg (by simp [full2]); exact wpAny_pure (y2 full2))
        | (apply wp_if_neg (by simp [full2]); apply wpAny_bind; apply wpAny_pure; exact wpAny_pure (y2 full2))
end
/-! ### set(list of such tuples) -/
/-- what of the items is in the set -/
structure Took (ks M : List (Addr × List Key)) : Prop where
  sub : ∀ q ∈ M, q ∈ ks
  all : ∀ q ∈ ks, q.2 ∈ M.map (·.2)
  len : M.length ≤ ks.length
theorem Took.nil : Took [] [] := ⟨fun _ h => (nomatch h), fun _ h => (nomatch h), Nat.le_refl _⟩
theorem Took.same {ks M : List (Addr × List Key)} {q : Addr × List Key} (g : Took ks M) (h : q.2 ∈ M.map (·.2)) : Took (ks ++ [q]) M := by
  refine ⟨fun r hr => List.mem_append_left _ (g.sub r hr), fun r hr => ?_, by rw [List.length_append]; exact Nat.le_trans g.len (Nat.le_add_right _ _)⟩
  rcases List.mem_append.mp hr with z | z
  · exact g.all r z
  · rw [List.mem_singleton.mp z]
    exact h
theorem Took.more {ks M M2 : List (Addr × List Key)} {q : Addr × List Key} (g : Took ks M) (pm : M2.Perm (q :: M)) : Took (ks ++ [q]) M2 := by
  refine ⟨fun r hr => ?_, fun r hr => ?_, by rw [pm.length_eq, List.length_append]; exact Nat.succ_le_succ g.len⟩
  · rcases List.mem_cons.mp (pm.mem_iff.mp hr) with z | z
    · exact List.mem_append_right _ (List.mem_singleton.mpr z)
    · exact List.mem_append_left _ (g.sub r z)
  · refine (pm.map (·.2)).mem_iff.mpr ?_
    rcases List.mem_append.mp hr with z | z
    · exact List.mem_cons_of_mem _ (g.all r z)
    · rw [List.mem_singleton.mp z]
      exact List.mem_cons_self
section
variable {P : Program} {w : World} {A : Around} {R : Result → Shared → Prop} {I : Addr} {fp wr : List Addr} {G : Array GenState → Array GenState → Prop} {n : Nat} {Pv : Nat → Value → Prop} {St : Nat → Shared → Prop}
theorem fill_tups (W : WalksS P w A.in1 I fp wr G n Pv St) (a : Addr) (off : a ∉ fp) (ks : List (Addr × List Key)) (len : ks.length = n) (few : n < 16) (val : ∀ i v, Pv i v → ∃ q, ks[i]? = some q ∧ v = .ref q.1)
    (h0 : Heap) (tups : ∀ q ∈ ks, IsTup P w h0 q.2 q.1) (na : h0.get? a = none) (nw : ∀ b ∈ wr, h0.get? b = none) (hu : A.in1.units < cLine) :
    ∀ (more i : Nat) (s : Shared), n - i = more → i ≤ n → St i s → (∀ b o, h0.get? b = some o → s.heap.get? b = some o) → (∃ M es ep t, TSet P w s.heap a M es ep t ∧ Took (ks.take i) M) →
      (∀ s', Moved (a :: wr) G s s' → (∃ M es ep t, TSet P w s'.heap a M es ep t ∧ Took ks M) → (∀ b o, h0.get? b = some o → s'.heap.get? b = some o) → R (.ok (.ret .none)) s') →
      codeAny (model P w) A (.builtin "set.update.loop" ⟨[.ref a, .ref I], []⟩) R s := by
  have off2 : a ∉ wr := fun c => off (W.sub _ c)
  have sub2 : ∀ b ∈ wr, b ∈ a :: wr := fun b c => List.mem_cons_of_mem _ c
  have kpM : ∀ {z z' : Shared}, Moved wr G z z' → (∀ b o, h0.get? b = some o → z.heap.get? b = some o) → ∀ b o, h0.get? b = some o → z'.heap.get? b = some o := fun mv kp b o e =>
    mv.heap b o (fun c => by rw [nw b c] at e; cases e) (kp b o e)
  intro more
  induction more with
  | zero =>
    intro i s e1 e2 st kp ⟨M, es, ep, t, set, took⟩ fin
    obtain rfl : i = n := by omega
    apply codeAny_builtin PyProof.Rows.F.entry_set_update_loop
    rw [Around.under_plainId PyProof.Rows.F.plain_set_update_loop _]
    refine wpAny_bind (W.done s _ _ st ?_)
    intro s' mv
    rw [← len, List.take_length] at took
    exact wpAny_pure (fin s' (mv.mono sub2) ⟨M, es, ep, t, set.keep (fun o g => mv.heap a o off2 g) fun q hq => tup_keep (tups q (took.sub q hq)) (kpM mv kp), took⟩ (kpM mv kp))
  | succ more ih =>
    intro i s e1 e2 st kp ⟨M, es, ep, t, set, took⟩ fin
    have lt : i < n := by omega
    apply codeAny_builtin PyProof.Rows.F.entry_set_update_loop
    rw [Around.under_plainId PyProof.Rows.F.plain_set_update_loop _]
    refine wpAny_bind (W.item i s _ _ lt st ?_)
    intro v s' pv st' mv
    obtain ⟨q, hq, rfl⟩ := val i v pv
    have kp' := kpM mv kp
    have hqm := List.mem_of_getElem? hq
    have set' : TSet P w s'.heap a M es ep t := set.keep (fun o g => mv.heap a o off2 g) fun r hr => tup_keep (tups r (List.mem_of_mem_take (took.sub r hr))) kp'
    have hx : IsTup P w s'.heap q.2 q.1 := tup_keep (tups q hqm) kp'
    have room : M.length + 1 < 16 := by
      have c1 := took.len
      rw [List.length_take] at c1
      omega
    have et : ks.take (i + 1) = ks.take i ++ [q] := by rw [List.take_add_one, hq]; rfl
    refine wpAny_bind (wpAny_holding ?_)
    unfold setAdd
    refine wpAny_holding (wpAny_bind (wpAny_pyHash_tuple hu hx ?_))
    refine TSet.add (s := { s' with toks := s'.toks + (q.2.length + 1) }) set' hx hu room ?_
    intro b h' M2 es2 ep2 t2 same set2 c1 c2
    have took2 : Took (ks.take (i + 1)) M2 := by
      rw [et]
      rcases Classical.em (q.2 ∈ M.map (·.2)) with c | c
      · rw [c1 c]
        exact took.same c
      · exact took.more (c2 c)
    have kp2 : ∀ b o, h0.get? b = some o → h'.get? b = some o := fun b o e => (same.2 b (fun z => by rw [z, na] at e; cases e)).trans (kp' b o e)
    refine wpAny_pure ⟨plainId_quiet PyProof.Rows.F.plain_set_update_loop _, ih (i + 1) _ (by omega) lt (W.frame _ s' _ _ st' (Nat.le_add_right _ _) ?_) kp2 ⟨M2, es2, ep2, t2, set2, took2⟩ ?_⟩
    · intro b hb o g
      rw [same.2 b (fun e => off (e ▸ hb))]
      exact g
    · intro s2 mv2 set4 kp4
      refine fin s2 (Moved.trans W.gtrans ((mv.mono sub2).then_heap (Nat.le_add_right _ _) ?_) mv2) set4 kp4
      intro b o hb g
      rw [same.2 b (fun e => hb (by rw [e]; exact List.mem_cons_self ..))]
      exact g
end
section
variable {P : Program} {w : World} {A : Around} {E : Value → Shared → Prop} {s : Shared}
theorem tset_bare {h : Heap} {a : Addr} (g : h.get? a = some (bare (!w.params.followText "set-order"))) : TSet P w h a [] #[] 0 (.fresh 0 0 (!w.params.followText "set-order")) where
  obj := ⟨_, g, ⟨rfl, rfl, rfl⟩, rfl⟩
  rows := rfl
  tab := ⟨List.Pairwise.nil, rfl, rfl, .inl rfl, fun x hx => (nomatch hx), fun i h j hi => by simp at hi⟩
  nd := List.nodup_nil
  isT := fun q hq => nomatch hq
  led := by
    show _ ∨ (!w.params.followText "set-order") = true
    cases w.params.followText "set-order"
    · exact .inr rfl
    · exact .inl rfl
  room := by show 0 * 5 < 7 * 3; decide
  few := by show 0 < 16; decide
theorem make_tups {l : Addr} {its : Array Value} (ks : List (Addr × List Key)) {Q : Value → Shared → Prop} (hh : A.handled = none) (isl : s.heap.IsList l its) (hit : its.toList = ks.map fun q => Value.ref q.1) (tups : ∀ q ∈ ks, IsTup P w s.heap q.2 q.1)
    (few : ks.length < 16) (hu : A.units + 3 < cLine)
    (fin : ∀ (h' : Heap) (tk : Nat), (∃ M es ep t, TSet P w h' s.heap.objs.size M es ep t ∧ Took ks M) → (∀ b o, s.heap.get? b = some o → h'.get? b = some o) → Q (.ref s.heap.objs.size) { s with heap := h', toks := tk }) :
    wpAny (model P w) A (call (.type "set") [.ref l]) Q E s := by
  obtain ⟨c, tl, mro⟩ := PySem.F.called_set.mro
  have m1 := PySem.F.called_set.made
  have m2 := PySem.F.called_set.sub
  apply wpAny_call
  apply codeAny_of_tree
  show wpAny _ _ (callAny (.type "set") _) _ _ _
  refine wpAny_pure (And.intro (Code.quiet_builtin _ (by decide +kernel)) (codeAny_builtin PySem.F.entry_type_call ?_))
  rw [Around.under_plain (weight_type_call_type "set" [.ref l] []) rfl]
  have m3 := PySem.F.called_set.notType
  have m4 := PySem.F.called_set.canCreate
  have m5 := PySem.F.typeCall_set_1 (.ref l)
  repeat (any_goals (first | assumption | wp_step))
  refine codeAny_mono (code_set_led1 (.ref l) (E := E) (Q₁ := fun v s1 => v = .ref s.heap.objs.size ∧ s1 = { s with heap := s.heap.push (bare (!w.params.followText "set-order")) }) ⟨rfl, rfl⟩) ?_
  rintro (err | fl) s1 got
  · exact got
  cases fl
  case next => exact got.elim
  case brk => exact got.elim
  case cont => exact got.elim
  case ret v =>
  obtain ⟨rfl, rfl⟩ := got
  generalize eled : (!w.params.followText "set-order") = led
  have at0 : (s.heap.push (bare led)).get? s.heap.objs.size = some (bare led) := Heap.get?_push_size _ rfl
  have ty0 : Shared.TypeIs { s with heap := s.heap.push (bare led) } (.ref s.heap.objs.size) "set" := ⟨_, at0, rfl⟩
  have b1 := PySem.F.called_set.init.lookup
  have b2 := PySem.F.called_set.init.bind (.ref s.heap.objs.size)
  repeat (any_goals (first | assumption | wp_step))
  refine codeAny_mono (codeAny_call_builtin (R := wants (fun r s2 => r = .none ∧ ∃ h' tk, s2 = { s with heap := h', toks := tk } ∧ (∃ M es ep t, TSet P w h' s.heap.objs.size M es ep t ∧ Took ks M) ∧
    (∀ b o, s.heap.get? b = some o → h'.get? b = some o)) E) PySem.F.called_set.init.plain PySem.F.entry_set_init (check_set_init_1 ty0 ?_)) ?_
  · obtain ⟨⟨oc, od, dt, sl⟩, g, e1, nl, e2⟩ := isl
    simp only at e1 e2
    subst e1 e2
    have g2 : (s.heap.push (bare led)).get? l = some { cls := .type "list", dict := od, data := .seq its nl, slots := sl } := Heap.get?_push_of_some _ g
    have u1 := PySem.F.sub_list_set
    have u2 := PySem.F.sub_list_frozenset
    have u3 : (Value.type "list" == Value.type "dict") = false := by decide
    have isl2 : (s.heap.push (bare led)).IsList l its := ⟨_, g2, rfl, nl, rfl⟩
    unfold Builtin.«set.__init__» noKeywords Builtin.Frozenset.updateFrom
    generalize e3 : pyIter = PI
    wp_walk
    subst e3
    refine wpAny_pyIter_list isl2 (wpAny_bind (wpAny_runValue ?_))
    have ltl : l < s.heap.objs.size := Heap.lt_size g
    have hh3 : A.in1.in1.in1.handled = none := by simp [hh]
    have sz1 : (s.heap.push (bare led)).objs.size = s.heap.objs.size + 1 := Heap.size_push ..
    have ne1 : l ≠ (s.heap.push (bare led)).objs.size := by rw [sz1]; exact Nat.ne_of_lt (Nat.lt_succ_of_lt ltl)
    have ne2 : s.heap.objs.size ∉ [(s.heap.push (bare led)).objs.size, l] := by
      rw [sz1]
      intro q
      simp only [List.mem_cons, List.not_mem_nil, or_false] at q
      rcases q with q | q
      · exact absurd q (Nat.ne_of_lt (Nat.lt_succ_self _))
      · exact absurd q (Nat.ne_of_gt ltl)
    have len : ks.length = its.size := by rw [← Array.length_toList, hit, List.length_map]
    have val : ∀ (i : Nat) (v : Value), its[i]? = some v → ∃ q, ks[i]? = some q ∧ v = .ref q.1 := by
      intro i v hv
      rw [← Array.getElem?_toList, hit, List.getElem?_map] at hv
      cases hq : ks[i]? with
      | none => rw [hq] at hv; cases hv
      | some q => rw [hq] at hv; exact ⟨q, rfl, (Option.some.inj hv).symm⟩
    have none_of : ∀ b, s.heap.objs.size ≤ b → s.heap.get? b = none := fun b hb => by
      cases q : s.heap.get? b with
      | none => rfl
      | some o => exact absurd (Nat.lt_of_lt_of_le (Heap.lt_size q) hb) (Nat.lt_irrefl _)
    refine fill_tups ((Walks.list hh3 _ l ne1 its).toS) s.heap.objs.size ne2 ks len (by omega) val s.heap tups (none_of _ (Nat.le_refl _)) (fun b hb => none_of b ?_) hu (its.size - 0) 0 _ (by omega) (Nat.zero_le _) ⟨⟨_, Heap.get?_push_size _ rfl, rfl, rfl⟩, (isl2.push _)⟩
      (fun b o e => Heap.get?_push_of_some _ (Heap.get?_push_of_some _ e)) ⟨[], #[], 0, _, tset_bare (by rw [eled]; exact Heap.get?_push_of_some _ at0), Took.nil⟩ ?_
    · rw [List.mem_singleton.mp hb, sz1]
      exact Nat.le_succ _
    · rintro ⟨h', g', d', tk', os'⟩ mv set kp
      cases (show g' = s.gens from mv.gens)
      cases (show d' = s.drawn from mv.drawn)
      cases (show os' = s.os from mv.os)
      show wpAny _ _ _ _ _ _
      apply wpAny_pure
      show wpAny _ _ (ret Value.none) _ _ _
      exact wpAny_pure ⟨rfl, h', tk', rfl, set, kp⟩
  · rintro (err | fl) s2 got2
    · exact got2
    cases fl
    case next => exact got2.elim
    case brk => exact got2.elim
    case cont => exact got2.elim
    case ret v2 =>
    obtain ⟨rfl, h', tk, rfl, set, kp⟩ := got2
    repeat (any_goals (first | assumption | wp_step))
    exact fin _ _ set kp
end
end Fs
namespace Fs
open PySem PySem.Spec PyProof.Rows L2 SlX RZ SrtO
/-! ### sorted(set) -/
section
variable {P : Program} {w : World} {A : Around} {E : Value → Shared → Prop} {s : Shared}
theorem sorted_tset {a : Addr} {M : List (Addr × List Key)} {es : Array (Int × Value)} {ep : Nat} {t : SetTable} {k : Value → Int × List Nat} {Q : Value → Shared → Prop} (R : TSet P w s.heap a M es ep t) (hh : A.handled = none)
    (hp : ∀ q ∈ M, IsIT s.heap (.ref q.1) (k (.ref q.1)).1 (k (.ref q.1)).2)
    (fin : ∀ (s' : Shared) (d : Addr) (out : List Value) (n : Nat), (∀ b o, s.heap.get? b = some o → s'.heap.get? b = some o) → s'.gens = s.gens → s'.os = s.os → s.heap.objs.size ≤ d → s'.heap.get? d = some (seqObj "list" out.toArray n) →
      Srtd (fun v u => HT.lexLt (kT (k v)) (kT (k u))) out → out.Perm (M.map fun q => Value.ref q.1) → Q (.ref d) s') :
    wpAny (model P w) A (call (.builtin "sorted") [.ref a]) Q E s := by
  obtain ⟨o, g, ex, d⟩ := R.obj
  have hsz := R.size
  have few := R.few
  apply Calls.call_function_entry kind_sorted plain_sorted entry_sorted (args_sorted1 _)
  unfold Builtin.«sorted»
  refine wpAny_bind (m := checkCount "sorted" 1 1 _) (wpAny_pure ?_)
  refine wpAny_bind (collect_set (A := A.in1) hh ⟨o, g, ex.1, d⟩ R.fits (by unfold scanBound; omega) R.tab.ris R.led fun s1 vs k1 hz g1 o1 pm => ?_)
  have ev : es.toList.map (·.2) = M.map fun q => Value.ref q.1 := by
    rw [R.rows, List.map_map]
    rfl
  rw [ev] at pm
  have vl : vs.length < 16 := by rw [pm.length_eq, List.length_map]; exact few
  have vz : vs.length ≤ sizeLine := by rw [sizeLine_eq]; omega
  refine wpAny_bind (wpAny_newList ?_ vz)
  have hoL : (s1.heap.push (seqObj "list" vs.toArray 0)).get? s1.heap.objs.size = some (seqObj "list" vs.toArray 0) := Heap.get?_push_size _ rfl
  have hv : ∀ v ∈ vs, IsIT (s1.heap.push (seqObj "list" vs.toArray 0)) v (k v).1 (k v).2 := fun v hv => by
    obtain ⟨q, hq, e⟩ := List.mem_map.mp (pm.mem_iff.mp hv)
    rw [← e]
    exact (hp q hq).keeps fun b u e2 _ => Heap.get?_push_of_some _ (k1 b u e2)
  refine wpAny_bind (wpAny_holding (wpAny_call_entry slot_list_sort ⟨_, hoL, rfl⟩ entry_list_sort (list_sort_ord (s := { s1 with heap := s1.heap.push (seqObj "list" vs.toArray 0) }) (NtL.swo_lexL fun v => kT (k v)) hoL vz (fun h2 => it_sortable (by omega) hv ?_) fun out hs hb => ⟨_, rfl, ?_⟩) (args_list_sort _)))
  · intro u e
    have e' : some u = some (seqObj "list" vs.toArray 0) := e.symm.trans hoL
    cases e'
    intro c
    exact absurd (Value.type.inj c) (by decide)
  · obtain ⟨c, hc⟩ := sortedHeap_at (vs := vs) (out := out.toArray) hoL
    refine wpAny_pure ⟨_, rfl, fin _ s1.heap.objs.size out c (fun b u e => ?_) g1 o1 hz hc hs (hb.perm.trans pm)⟩
    have q := k1 b u e
    have lt := Heap.lt_size q
    show (sortedHeap (s1.heap.push (seqObj "list" vs.toArray 0)) s1.heap.objs.size vs out.toArray).get? b = some u
    rw [sortedHeap_old (Nat.ne_of_lt lt) (by rw [size_push']; exact Nat.lt_succ_of_lt lt)]
    exact Heap.get?_push_of_some _ q
end
/-! ### the set in the abstract heap -/
structure TS0 (P : Program) (w : World) (h : Heap) (a : Addr) (M : List (Addr × List Key)) : Prop where
  ex : ∃ (es : Array (Int × Value)) (ep : Nat) (t : SetTable), (∃ o, h.get? a = some o ∧ o.ExactSet ∧ o.data = .set es ep t) ∧ es.toList = M.map (rowT P w) ∧ TabOk t (M.map fun q => tupH P w q.2) ∧ (M.map (·.2)).Nodup ∧
    (w.params.followText "set-order" = true ∨ t.led = true) ∧ M.length * 5 < t.mask * 3 ∧ M.length < 16
def TSetO (P : Program) (w : World) (a : Addr) (M : List (Addr × List Key)) : HO := .ext fun h => TS0 P w h a M
theorem TSet.ts0 {P : Program} {w : World} {h : Heap} {a : Addr} {M : List (Addr × List Key)} {es : Array (Int × Value)} {ep : Nat} {t : SetTable} (R : TSet P w h a M es ep t) : TS0 P w h a M :=
  ⟨es, ep, t, R.obj, R.rows, R.tab, R.nd, R.led, R.room, R.few⟩
theorem tsetO_new {P : Program} {w : World} {H : Hp} {h : Heap} {a : Addr} {M : List (Addr × List Key)} (R : TS0 P w h a M) : ObjOk P w H h a (TSetO P w a M) := by
  have ⟨_, _, _, ⟨o, ho, _⟩, _⟩ := R.ex
  refine ⟨R, ⟨o, ho⟩, fun h1 h2 p k => ?_⟩
  have ⟨es, ep, t, ⟨o, ho, r⟩, q⟩ := TS0.ex p
  exact ⟨es, ep, t, ⟨o, k o ho, r⟩, q⟩
def keyIT (p : Int × List Nat) : List Key := [.inl p.1, .inr (SX.S p.2)]
def rowIT (q : Addr × (Int × List Nat)) : Addr × List Key := (q.1, keyIT q.2)
theorem keyIT_inj {p q : Int × List Nat} (h : keyIT p = keyIT q) : p = q := by
  unfold keyIT at h
  injection h with h1 h2
  injection h2 with h2 _
  injection h1 with h1
  injection h2 with h2
  exact Prod.ext h1 (by have := congrArg cps h2; exact this)
theorem pull {α β : Type} {f : α → β} {ks : List α} : ∀ l : List β, (∀ y ∈ l, ∃ x ∈ ks, y = f x) → ∃ m : List α, l = m.map f ∧ ∀ x ∈ m, x ∈ ks
  | [], _ => ⟨[], rfl, fun _ h => nomatch h⟩
  | y :: l, h => by
    obtain ⟨x, hx, e⟩ := h y List.mem_cons_self
    obtain ⟨m, em, hm⟩ := pull l fun z hz => h z (List.mem_cons_of_mem _ hz)
    refine ⟨x :: m, by rw [e, em]; rfl, fun z hz => ?_⟩
    rcases List.mem_cons.mp hz with c | c
    · rw [c]
      exact hx
    · exact hm z c
section
variable {X : Cx}
theorem tup_it {pins : List (Addr × Obj)} {σ : L2.St} {H : Hp} {s : Shared} {t : Addr} {p : Int × List Nat} (I : Inv X pins σ H s) (h : H t = some (.tup (itV p))) : IsIT s.heap (.ref t) p.1 p.2 ∧ IsTup X.prog X.w s.heap (keyIT p) t := by
  obtain ⟨_, its, r, o, ho, hc, n, hd⟩ := I.hok _ _ h
  obtain ⟨u1, u2, rfl, ri, rj⟩ := vals2 r
  obtain ⟨t1, rfl⟩ := ri
  obtain ⟨t2, rfl⟩ := rj
  exact ⟨⟨t, o, t1, t2, _, n, rfl, ho, hc, hd, rfl⟩, o, _, n, ho, hc, hd, .cons (keyIs_int _ t1) (.cons (keyIs_str _ t2) .nil)⟩
theorem refs_eq {α : Type} {f : α → Addr} : ∀ {ks : List α} {us : List Value}, Vals (ks.map fun p => V.ref (f p)) us → us = ks.map fun p => Value.ref (f p)
  | [], _, .nil => rfl
  | _ :: _, _, .cons r t => by
    cases r
    rw [refs_eq t]
    rfl
/-- set(xs), xs a list of pairs of a number and a text -/
def rSetIT (P : Program) (w : World) (K : PySem.W.Frag) : List V → Hp → VK → Prop := fun vs H Q => ∃ (l : Addr) (ks : List (Addr × (Int × List Nat))), vs = [V.ref l] ∧ SqL K H l (ks.map fun q => V.ref q.1) ∧ (∀ q ∈ ks, H q.1 = some (.tup (itV q.2))) ∧ ks.length < 16 ∧
  ∀ (a : Addr) (M : List (Addr × (Int × List Nat))) (o : HO), o = TSetO P w a (M.map rowIT) → H a = none → (∀ q ∈ M, q ∈ ks) → (∀ q ∈ ks, q.2 ∈ M.map (·.2)) → (M.map (·.2)).Nodup → Q (.ref a) (upd H a o)
theorem cr_setIT (hc : X.calm = true) (hu : X.A.units + 64 < cLine) : CallR X (.type "set") (rSetIT X.prog X.w X.K) := by
  intro pins s σ H xs us Q I r h
  obtain ⟨l, ks, rfl, hl, hk, few, q⟩ := h
  obtain ⟨u, rfl, ru⟩ := vals1 r
  obtain rfl : u = Value.ref l := ru
  obtain ⟨its, rv, pl, hz⟩ := I.list hl
  have hn : H s.heap.objs.size = none := I.hok.fresh (Nat.le_refl _)
  refine make_tups (P := X.prog) (w := X.w) (ks.map rowIT) (I.ok.hd hc) pl.isList (by rw [List.map_map]; show its.toArray.toList = ks.map fun q => Value.ref q.1; simpa using refs_eq (f := fun q : Addr × (Int × List Nat) => q.1) rv) (fun p hp => ?_) (by rw [List.length_map]; exact few) (by omega) fun h' tk got kp => ?_
  · obtain ⟨q, hq, rfl⟩ := List.mem_map.mp hp
    exact (tup_it I (hk q hq)).2
  · obtain ⟨M', es, ep, t, R, took⟩ := got
    obtain ⟨M, em, sub⟩ := pull (f := rowIT) (ks := ks) M' fun y hy => by
      obtain ⟨x, hx, e⟩ := List.mem_map.mp (took.sub y hy)
      exact ⟨x, hx, e.symm⟩
    subst em
    have e2 : (M.map rowIT).map (·.2) = (M.map (·.2)).map keyIT := by rw [List.map_map, List.map_map]; rfl
    refine ⟨.ref s.heap.objs.size, upd H s.heap.objs.size (TSetO X.prog X.w s.heap.objs.size (M.map rowIT)), I.laid (t' := tk) kp (Nat.le_refl _) (tsetO_new R.ts0), rfl, q _ M _ rfl hn sub (fun p hp => ?_) ?_⟩
    · have z := took.all (rowIT p) (List.mem_map.mpr ⟨p, hp, rfl⟩)
      rw [e2] at z
      obtain ⟨m, hm, em⟩ := List.mem_map.mp z
      rw [← keyIT_inj em]
      exact hm
    · have z := R.nd
      rw [e2] at z
      exact nodup_of_map z
/-- sorted(set) of such pairs -/
def rSortedS (P : Program) (w : World) : List V → Hp → VK → Prop := fun vs H Q => ∃ (a : Addr) (M : List (Addr × (Int × List Nat))), vs = [V.ref a] ∧ H a = some (TSetO P w a (M.map rowIT)) ∧ (∀ q ∈ M, H q.1 = some (.tup (itV q.2))) ∧
  ∀ ys p, Paired (fun x p => ∃ t, x = V.ref t ∧ H t = some (.tup (itV p))) ys (srtT (M.map (·.2))) → H p = none → Q (.ref p) (upd H p (.lst ys))
theorem cr_sortedS (hc : X.calm = true) : CallR X (.builtin "sorted") (rSortedS X.prog X.w) := by
  intro pins s σ H vs us Q I r h
  obtain ⟨a, M, rfl, ha, hk, q⟩ := h
  obtain ⟨u, rfl, ru⟩ := vals1 r
  obtain rfl : u = Value.ref a := ru
  have R0 : TS0 X.prog X.w s.heap a (M.map rowIT) := (I.hok a _ ha).1
  obtain ⟨es, ep, t, b1, b2, b3, b4, b5, b6, b7⟩ := R0.ex
  have R : TSet X.prog X.w s.heap a (M.map rowIT) es ep t := ⟨b1, b2, b3, b4, fun p hp => by
    obtain ⟨q, hq, rfl⟩ := List.mem_map.mp hp
    exact (tup_it I (hk q hq)).2, b5, b6, b7⟩
  refine sorted_tset (k := fun u => itOf H (backV u)) R (I.ok.hd hc) (fun p hp => ?_) fun s' d out n kp g o hd hg hs pm => ?_
  · obtain ⟨q, hq, rfl⟩ := List.mem_map.mp hp
    show IsIT s.heap (.ref q.1) (itOf H (.ref q.1)).1 (itOf H (.ref q.1)).2
    rw [itOf_eq ⟨q.1, rfl, hk q hq⟩]
    exact (tup_it I (hk q hq)).1
  · have e1 : (M.map rowIT).map (fun q => Value.ref q.1) = M.map fun q => Value.ref q.1 := by rw [List.map_map]; rfl
    rw [e1] at pm
    have hr : ∀ u ∈ out, ∃ q ∈ M, u = Value.ref q.1 := fun u hu => by
      obtain ⟨q, hq, e⟩ := List.mem_map.mp (pm.mem_iff.mp hu)
      exact ⟨q, hq, e.symm⟩
    have h3 : ∀ u ∈ out, ∃ a, u = Value.ref a := fun u hu => by
      obtain ⟨q, _, e⟩ := hr u hu
      exact ⟨q.1, e⟩
    have hn : H d = none := I.hok.fresh hd
    have few : M.length < 16 := by have := R.few; rw [List.length_map] at this; exact this
    have hlen : (out.map backV).length ≤ sizeLine := by rw [List.length_map, pm.length_eq, List.length_map, sizeLine_eq]; omega
    have J : Inv X pins σ (upd H d (.lst (out.map backV))) { s with heap := s'.heap, gens := s'.gens, drawn := s'.drawn, toks := s'.toks } :=
      I.call (ch := []) (Un.laid kp hd hn) (I.hok.laid kp hd ⟨hlen, out, n, vals_back h3, hg⟩) (by rw [g]; exact I.bare) (fun _ z => nomatch z)
    have e : s' = { s with heap := s'.heap, gens := s'.gens, drawn := s'.drawn, toks := s'.toks } := by
      cases s'
      cases s
      cases o
      rfl
    rw [e]
    refine ⟨.ref d, _, J, rfl, q _ d ?_ hn⟩
    have es : (out.map backV).map (itOf H) = srtT (M.map (·.2)) := by
      refine srtT_of ?_ ?_
      · rw [List.map_map]
        exact List.pairwise_map.mpr hs
      · have z := (pm.map backV).map (itOf H)
        have e2 : ((M.map fun q => Value.ref q.1).map backV).map (itOf H) = M.map (·.2) := by
          rw [List.map_map, List.map_map]
          refine List.map_congr_left fun q hq => ?_
          exact itOf_eq ⟨q.1, rfl, hk q hq⟩
        rw [e2] at z
        exact z
    rw [← es]
    refine paired_map fun x hx => ?_
    obtain ⟨u, hu, rfl⟩ := List.mem_map.mp hx
    obtain ⟨q, hq, rfl⟩ := hr u hu
    refine ⟨q.1, rfl, ?_⟩
    show H q.1 = some (.tup (itV (itOf H (.ref q.1))))
    rw [itOf_eq ⟨q.1, rfl, hk q hq⟩]
    exact hk q hq
end
end Fs
namespace Fs
open PySem PySem.Spec PyProof.Rows L2 SlX RZ SrtO
open LamX (ExtN Tabs TabS TabB LamS lamEnv lamCx GivesTo tLam CodeO)
/-! ### all but the tables stays -/
theorem extN_same {H H' : Hp} (e : Same H H') : ExtN H H' := ExtN.of e
theorem stAtt_n {H H' : Hp} (e : ExtN H H') {a : Addr} {p : Row × Bool} (h : StAtt H a p) : StAtt H' a p := by
  obtain ⟨d, h1, h2⟩ := h
  exact ⟨d, e _ _ h1 (fun _ z => nomatch z), e _ _ h2 (fun _ z => nomatch z)⟩
theorem stsT_n {H H' : Hp} (e : ExtN H H') {t : Addr} {s : Sts} (h : StsT H t s) : StsT H' t s := by
  obtain ⟨as, h1, h2⟩ := h
  exact ⟨as, e _ _ h1 (fun _ z => nomatch z), L2.Paired.mapP h2 fun _ _ => stAtt_n e⟩
theorem slt_n {H H' : Hp} (e : ExtN H H') {a C dx : Addr} {vs : List (Option V)} (h : Slt H a C dx vs) : Slt H' a C dx vs := by
  rcases h with ⟨h, r⟩ | ⟨h, r⟩
  · exact .inl ⟨e _ _ h (fun _ z => nomatch z), r⟩
  · exact .inr ⟨e _ _ h (fun _ z => by unfold SlO at z; cases z), e _ _ r (fun _ z => nomatch z)⟩
theorem ruAt_n {H H' : Hp} (e : ExtN H H') {a C : Addr} {sg : List Nat} {s : Sts} (h : RuAt H a C sg s) : RuAt H' a C sg s := by
  obtain ⟨dx, lg, lm, ds, h1, h2, h3, h4⟩ := h
  exact ⟨dx, lg, lm, ds, slt_n e h1, e _ _ h2 (fun _ z => nomatch z), e _ _ h3 (fun _ z => nomatch z), L2.Paired.mapP h4 fun _ _ h => e _ _ h (fun _ z => nomatch z)⟩
theorem pot_n {H H' : Hp} (e : ExtN H H') {a : Addr} (h : Pot H a) : Pot H' a := by
  obtain ⟨p0, p1, p2, h1, r⟩ := h.ex
  exact ⟨p0, p1, p2, e _ _ h1 (fun _ z => nomatch z), r⟩
/-! ### x & y, x | y -/
structure OpP (P : Program) (w : World) (K : PySem.W.Frag) (mg : Str → Option Value) (base : Heap) (CX : CXT) (C : Addr) (op : Operator) (k : Nat) (sp : Sp) : Prop where
  ex : ∃ g : Addr, PySem.W.findIn K (.ref C) (PySem.dunder op.info.2) = some (some (.ref g)) ∧ PySem.W.isFn K (.ref g) = true ∧ FnR P w K mg base CX k g sp
def tBinM (C : Addr) (sp : Sp) (E : XK) (ta tb : TE) : TE := fun σ H Q => ta σ H fun x H1 => tb σ H1 fun y H2 => ∃ (a dx b dy : Addr) (vs ws : List (Option V)), x = .ref a ∧ y = .ref b ∧ Slt H2 a C dx vs ∧ Slt H2 b C dy ws ∧ sp [x, y] H2 Q E
section
variable {X : Cx} {CX : CXT} {k j : Nat} {C : Addr} {sp : Sp}
theorem pe_binM {op : Operator} {E : XK} {a b : Expr} {ta tb : TE} {pos : Pos} (M : OpP X.prog X.w X.K X.mg X.base CX C op k sp) (sf : PySem.W.selfFirst X.K C = true) (hr : Room j X.A) (hx : Passes CX X E) (ha : PE X a ta) (hb : PE X b tb) (hk : k ≤ j := by decide) :
    PE X (.BinOp a op b pos) (tBinM C sp E ta tb) := by
  refine ⟨fun pins s σ H Q I h => ?_⟩
  refine wpAny_BinOp (binT ha hb I h fun v u s2 x y H2 I2 rx ry q => ?_)
  obtain ⟨a, dx, b, dy, vs, ws, rfl, rfl, sa, sb, q⟩ := q
  cases (show v = Value.ref a from rx)
  cases (show u = Value.ref b from ry)
  obtain ⟨sl', od, _, J, _⟩ := slt_inst I2 sa
  obtain ⟨sl2, od2, _, J2, _⟩ := slt_inst I2 sb
  obtain ⟨m, hF⟩ := I2.fr
  obtain ⟨g, h1, h2, F⟩ := M.ex
  refine PySem.W.binop_K (op := op) hF I2.ok.mod.kin J J2.type sf h1 h2 ?_
  refine wpAny_mono (wpAny_call (run_fnR (us := [.ref a, .ref b]) (vs := [.ref a, .ref b]) F (hr.mono hk) hx I2 (.cons rfl (.cons rfl .nil)) q)) (fun r s' z => ?_) fun _ _ x => x
  obtain ⟨z', H', I', rz, qz⟩ := z
  exact cmpback rz ⟨z', H', I', rz, qz⟩
end
/-! ### _law_made -/
/-- what the call makes: a rule, or too many -/
def TMade (C TM : Addr) : (XK → Hp → VK → Prop) → Hp → VK → Prop := fun tl H Q =>
  tl (fun cls d H' => cls = .ref TM ∧ ∃ dd, d = some dd ∧ H' dd = some (.xd [("limit", .int 6)]) ∧ Q (.str "many 6") H') H (fun v H1 => ∃ a dx vs, v = .ref a ∧ Slt H1 a C dx vs ∧ spSt C [.ref a] H1 Q E0)
abbrev s_made : Stmt := top 39
theorem sc_made : FnScope ["call", "e"] ["call"] (defScope s_made) := ⟨rfl, rfl, rfl, by decide +kernel, rfl, by decide +kernel, by decide +kernel⟩
/-- the facts of the error's class -/
structure TMy (K : PySem.W.Frag) (mg : Str → Option Value) (TM : Addr) : Prop where
  g : mg "TooMany" = some (.ref TM)
  x : XfC K TM
  no : PySem.W.findIn K (.ref TM) "limit" = some none
  one : PySem.W.exmOne K (.ref TM) (.ref TM) = some true
theorem takes_len {X : Cx} {W : WX} {n : Nat} (t : Takes X W) (hn : X.N.length = n) : Takes X (fun c d σ H => σ.length = n → W c d σ H) := by
  intro u s' ⟨a, B, sI, pins, σ, H, cls, d, e, I, nb, up, sky, na, os, ag, w⟩
  exact t u s' ⟨a, B, sI, pins, σ, H, cls, d, e, I, nb, up, sky, na, os, ag, w (I.len.trans hn)⟩
theorem made_gives {X : Cx} {C TM g : Addr} {cdg : Value} {k : Nat} {q : Str} (T : Bs X.mg) (Y : TMy X.K X.mg TM) (sc : SCls X.K C) (PS : PrP X.prog X.w X.K X.mg X.base C "states" 1 (spSt C)) (hr : Room (k + 3) X.A) :
    GivesTo X ["call", "e"] "_law_made" (defScope s_made) g cdg (defBody s_made) "call" q (TMade C TM) := by
  intro f c' s H Q tl act hc h
  have room : Room 2 ((cxOf C8.CX0 X.prog X.w X.K X.mg X.base ["call", "e"] "_law_made" (defScope s_made) g cdg X.A X.stack s H C8.E0).A) := (hr.deeper _).mono (by omega)
  refine ⟨_, pss_one (ps_try_as (X := (cxOf C8.CX0 X.prog X.w X.K X.mg X.base ["call", "e"] "_law_made" (defScope s_made) g cdg X.A X.stack s H C8.E0).nox) (c := .ref TM) (i := 1) (x := "TooMany") (n := "e")
      (tb := fun W D σ H => ∃ Ech : XK, (∀ cls d (σ' : L2.St) H', σ'.length = 2 → Ech cls d H' → W cls d σ' H') ∧ tPropSl C (spSt C) E0 (fun σZ HZ Q => σZ[0]? = some (some (.ref f)) ∧ HZ c' = some (CodeO c' q) ∧ tl Ech HZ Q) σ H D.rt)
      rfl rfl sc_made.nd rfl rfl ⟨rfl, by decide, .inl Y.g⟩ LamX.takes0 (fun W pn xe tk _ => ?_)
      (fun a oe cls d pn hz hf => pss_one (ps_ret (pe_op op_add_str pe_str (pt call_str_int T.z_str (pa_cons (pe_xf Y.x Y.no hz hf (pv 1)) pa_nil)))))), ?_⟩
  · refine ⟨fun pins s' σ H' D I h' => ?_⟩
    obtain ⟨Ech, hW, h1⟩ := h'
    have room' : Room 2 ((cxOf C8.CX0 X.prog X.w X.K X.mg X.base ["call", "e"] "_law_made" (defScope s_made) g cdg X.A X.stack s H C8.E0).nox.tr pn xe).A := room
    exact (pss_one (X := (cxOf C8.CX0 X.prog X.w X.K X.mg X.base ["call", "e"] "_law_made" (defScope s_made) g cdg X.A X.stack s H C8.E0).nox.tr pn xe) (ps_ret (pe_prP (j := 2) PS sc room' (act _ pn xe Ech _ _ (takes_len (n := 2) tk rfl) (fun cls d σ' H' e l => hW cls d σ' H' l e))))).run pins s' σ H' D I h1
  · refine ⟨fun cls d H' => cls = .ref TM ∧ ∃ dd, d = some dd ∧ H' dd = some (.xd [("limit", .int 6)]) ∧ Q (.str "many 6") H', ?_, ?_⟩
    · rintro cls d σ' H' hl ⟨rfl, dd, rfl, hd, q⟩
      refine ⟨true, Y.one, fun _ a ha => ?_, fun z => nomatch z⟩
      have hs : (σ'.set 1 (some (V.ref a)))[1]? = some (some (V.ref a)) := by
        rw [List.getElem?_set_self (by omega)]
      exact ⟨_, hs, rfl, rfl, dd, _, _, rfl, hd, rfl, 6, rfl, by decide, _, _, rfl, rfl, by rw [sizeLine_eq]; decide +kernel, q⟩
    · exact ⟨rfl, hc, h⟩
theorem qual_cx {CX : CXT} {P : Program} {w : World} {K : PySem.W.Frag} {mg : Str → Option Value} {base : Heap} {N : List Str} {x : Str} {sc : Scope} {f : Addr} {cdv : Value} {A : Around} {outer : List Env} {s : Shared} {H : Hp} {E : XK} : (cxOf CX P w K mg base N x sc f cdv A outer s H E).nox.env.qual = x ++ ".<locals>." := rfl
/-- the name of a lambda in the def x -/
def lamN (x : Str) : Str := (x ++ ".<locals>.") ++ "<lambda>"
theorem lamS_cx {CX : CXT} {P : Program} {w : World} {K : PySem.W.Frag} {mg : Str → Option Value} {base : Heap} {N : List Str} {x : Str} {sc scope : Scope} {f : Addr} {cdv : Value} {A : Around} {outer : List Env} {s : Shared} {H : Hp} {E : XK} (h : LamX.lamSB sc scope = true) :
    LamS (cxOf CX P w K mg base N x sc f cdv A outer s H E).nox.env.scope scope := LamX.lamS_by h
/-- x(lambda: body), x our def -/
theorem pe_made {X : Cx} {T : List (Addr × Str)} {C TM c P : Addr} {k : Nat} {q : Str} {params : Arguments} {body : Expr} {scope : Scope} {t : XK → TE} {p lpos pos : Pos} (D : Df X.K X.mg "_law_made" s_made ["call"]) (B : Bs X.mg) (Y : TMy X.K X.mg TM) (sc : SCls X.K C) (PS : PrP X.prog X.w X.K X.mg X.base C "states" 1 (spSt C))
    (TB : TabB X.base X.mg c P) (hq : X.env.qual = q ++ ".<locals>.") (hmT : (P, lamN q) ∈ T) (hu : ∀ p ∈ T, p.1 = P → p.2 = lamN q) (hcode : X.env.code = .ref c) (hr : Room (k + 3) X.A) (L : LamS X.env.scope scope)
    (hbody : ∀ (A : Around) (outer : List Env) (s : Shared) (H : Hp) (E : XK) (f c' : Addr), Room (k + 1) (A.deeper (lamEnv X scope s.heap.objs.size f c')) → PE (lamCx X A outer s H E scope f c') body (t E))
    (hdef : defaultsOf params X.env = ([], []) := by rfl) (hbind : ∀ (q : Str) (cl : List (Str × Addr)) (pm cv ctv : Value), bindArgs (PySem.W.kla_fn "<lambda>" q params body scope cl pm cv ctv) ⟨[], []⟩ = pure [] := by intros; rfl) (hg : Gl X "_law_made" := by rfl) :
    PE X (.Call (.Name "_law_made" p) [.Lambda params body scope lpos] [] pos) (tLam T (TMade C TM) t) := by
  unfold lamN at hmT hu
  rw [← hq] at hmT hu
  obtain ⟨g, fd, F, hm, b⟩ := D.ex
  have kp := F.kp
  obtain ⟨oc, od, kV, doc, pm, an, cdv, ct, osl, rfl, lk, cd⟩ := F.ex
  exact LamX.pe_lamcall (Ng := ["call", "e"]) (a := "call") hg hm kp lk cd b sc_made rfl (.inl rfl) (made_gives B Y sc PS (k := k) hr) TB hcode hmT hu hr L hdef hbind hbody
/-- what a made thing is: the states, or many -/
def MadeV (H : Hp) (v : V) : Option Sts → Prop
  | some st => ∃ t, v = .ref t ∧ StsT H t st
  | none => v = .str "many 6"
theorem made_ok {T : List (Addr × Str)} {C TM : Addr} {H : Hp} {Q : VK} {tl : XK → Hp → VK → Prop} {sg : List Nat} {r : Option Sts} (hT : Tabs T H)
    (h : ∀ (H1 : Hp) (E : XK) (Q1 : VK), ExtN H H1 → (∀ st, r = some st → ∀ (z : Addr) (H2 : Hp), Same H1 H2 → RuAt H2 z C sg st → st.length ≤ 6 → Q1 (.ref z) H2) → (r = none → TooX TM E H1) → tl E H1 Q1)
    (k : ∀ (v : V) (H' : Hp), ExtN H H' → Tabs T H' → MadeV H' v r → Q v H') : Tabs T H ∧ ∀ H1, ExtN H H1 → Tabs T H1 → TMade C TM tl H1 Q := by
  refine ⟨hT, fun H1 e1 t1 => h H1 _ _ e1 (fun st er z H2 e2 rz hl => ?_) fun er d H2 e2 hd => ⟨rfl, d, rfl, hd, k _ H2 (e1.trans (extN_same e2)) (t1.ext e2) (by rw [er]; rfl)⟩⟩
  have rz' := rz
  obtain ⟨dx, lg, lm, ds, sl, _⟩ := rz'
  refine ⟨z, dx, _, rfl, sl, z, sg, st, rfl, rz, hl, fun t H3 e3 ss => ?_⟩
  exact k _ H3 ((e1.trans (extN_same e2)).trans (extN_same e3)) ((t1.ext e2).ext e3) (by rw [er]; exact ⟨t, rfl, ss.sts⟩)
end Fs
namespace Fs
open PySem PySem.Spec PyProof.Rows L2 SlX RZ SrtO
open LamX (ExtN Tabs TabS TabB LamS lamEnv lamCx GivesTo tLam CodeO)
/-! ### a law def whose code object is known -/
structure DfC (K : PySem.W.Frag) (mg : Str → Option Value) (x : Str) (st : Stmt) (ps : List Str) (c : Addr) : Prop where
  ex : ∃ (f : Addr) (oc : Value) (od : Option Addr) (kV doc pm : Value) (an : Option Addr) (ct : Value) (osl : Array (Option Value)), K.lookup f = some ⟨oc, od, .func (PySem.W.fnOf x x (defArgs st) (defBody st) (defScope st) .none kV doc pm an (.ref c) ct), osl⟩ ∧
    PySem.W.codeIn K (.ref c) x = true ∧ PySem.W.keepIn K (.ref f) = true ∧ mg x = some (.ref f) ∧ Binds K (PySem.W.fnOf x x (defArgs st) (defBody st) (defScope st) .none kV doc pm an (.ref c) ct) ps []
section
variable {P : Program} {w : World} {K : PySem.W.Frag} {mg : Str → Option Value} {base : Heap}
theorem fnG_byC {CX : CXT} {k : Nat} {f : Addr} {ps N : List Str} {sp : Sp} {x qual : Str} {st : Stmt} {oc kV doc pm cdv ct : Value} {od an : Option Addr} {osl : Array (Option Value)}
    (look : K.lookup f = some ⟨oc, od, .func (PySem.W.fnOf x qual (defArgs st) (defBody st) (defScope st) .none kV doc pm an cdv ct), osl⟩) (code : PySem.W.codeIn K cdv qual = true) (S : FnScope N ps (defScope st)) (lens : ∀ vs H Q E, sp vs H Q E → vs.length = ps.length)
    (body : ∀ (A : Around) (outer : List Env) (s : Shared) (H : Hp) (vs : List V) (Q : VK) (E : XK), Room k (A.deeper (envOfC qual (defScope st) s.heap.objs.size f cdv)) → A.guards = some [] → sp vs H Q E →
      ∃ t, PSs (cxOf CX P w K mg base N qual (defScope st) f cdv A outer s H E) (defBody st) t ∧ t { nx := fun _ H' => Q .non H', rt := Q } (start N vs) H) : FnG P w K mg base CX (k + 1) f (PySem.W.fnOf x qual (defArgs st) (defBody st) (defScope st) .none kV doc pm an cdv ct) ps sp := by
  refine ⟨lens, fun A outer s H args us vs Q E room guards env bind rel want => ?_⟩
  have inK : K.In s.heap := env.mod.kin.keeps fun b o e => And.left (env.bs b o e)
  have noLim : s.heap.NoLimit := env.mod.nolimit.keeps fun b o e => And.left (env.bs b o e)
  have kinds : ∀ z ∈ ps.zip us, (defScope st).names.lookup z.1 = some .local ∨ ((defScope st).names.lookup z.1 = some .cell ∧ ((cellsFrom (s.heap.objs.size + 1) (defScope st).names []).lookup z.1).isSome = true) := by
    rintro ⟨nm, val⟩ hz
    cases S.par nm (List.of_mem_zip hz).1 with
    | inl c => exact Or.inl c
    | inr c => exact Or.inr ⟨c, PySem.W.cellsFrom_some _ _ _ (Or.inl c)⟩
  refine codeAny_call_function room.depth (inK _ _ look) rfl S.co S.gen rfl (PySem.W.codeRec_of inK code) (bind _ _ _ _ (wpAny_newFunctionEnv_cells S.kind kinds ?_))
  intro env' eEnv s' made
  subst eEnv
  refine And.intro (noLim.keeps made.toInCall.keep) (codeAny_func ?_)
  rcases body A outer s H vs Q E (room.deeper _) guards want with ⟨t, der, rd⟩
  have J := inv_start (CX := CX) (E := E) S room.hd env (lens _ _ _ _ want) rel made
  have done : ∀ {σ2 : L2.St} {H2 : Hp} {s2 : Shared} {v : V} {u : Value}, Inv (cxOf CX P w K mg base N qual (defScope st) f cdv A outer s H E) [] σ2 H2 s2 → RelV v u → Q v H2 → CE outer P w H s Q u s2 := by
    intro σ2 H2 s2 v u J2 r2 q2
    exact ⟨v, H2, J2.os, J2.bare, J2.base, J2.hok, r2, q2⟩
  refine wpAny_mono (der.run [] s' _ H _ J rd) ?_ (fun _ _ he => he)
  intro fl s2 h2
  cases fl
  case ret u => rcases h2 with ⟨v, σ2, H2, J2, r2, q2⟩; exact done J2 r2 q2
  case next => rcases h2 with ⟨σ2, H2, J2, q2⟩; exact done (v := .non) (u := .none) J2 rfl q2
  case brk => rcases h2 with ⟨_, _, _, q2⟩; cases q2
  case cont => rcases h2 with ⟨_, _, _, q2⟩; cases q2
theorem DfC.cal {x : Str} {st : Stmt} {N ps : List Str} {k : Nat} {sp : Sp} {c : Addr} (D : DfC K mg x st ps c) (S : FnScope N ps (defScope st)) (lens : ∀ vs H Q E, sp vs H Q E → vs.length = ps.length)
    (body : ∀ (f : Addr) (A : Around) (outer : List Env) (s : Shared) (H : Hp) (vs : List V) (Q : VK) (E : XK), Rm k (A.deeper (envOfC x (defScope st) s.heap.objs.size f (.ref c))) → sp vs H Q E →
      ∃ t, PSs (cxOf CX0 P w K mg base N x (defScope st) f (.ref c) A outer s H E).nox (defBody st) t ∧ t { nx := fun _ H' => Q .non H', rt := Q } (start N vs) H) : Cal P w K mg base (k + 1) x sp := by
  obtain ⟨f, oc, od, kV, doc, pm, an, ct, osl, look, code, kp, m, b⟩ := D.ex
  refine ⟨f, _, ps, fnG_byC look code S lens (fun A outer s H vs Q E room guards want => ?_), m, kp, b⟩
  obtain ⟨t, d, r⟩ := body f A outer s H vs Q E ⟨room, guards⟩ want
  exact ⟨t, d.nox, r⟩
end
/-! ### the data of states -/
def rowD (r : Row) : PyData := .dict (r.map fun p => (.str ⟨#[p.1]⟩, .int (p.2 : Nat)))
def stsD (st : Sts) : PyData := .tuple (st.map fun p => .tuple [rowD p.1, .bool p.2])
def madeD : Option Sts → PyData
  | some st => stsD st
  | none => .str "many 6"
theorem int_few : ∀ n : Nat, n < 64 → ((n : Nat) : Int).natAbs.log2 < 1920 ∧ ((PyData.int ((n : Nat) : Int)).shown).length ≤ 100 := by decide +kernel
theorem kv_row {H : Hp} : ∀ {r : Row}, (∀ p ∈ r, p.1 < 16 ^ 8 ∧ p.2 < 64) → DxKv H (kRow r) (r.map fun p => (.str ⟨#[p.1]⟩, .int (p.2 : Nat)))
  | [], _ => .nil
  | p :: r, h => by
    obtain ⟨h1, h2⟩ := h p List.mem_cons_self
    obtain ⟨i1, i2⟩ := int_few p.2 h2
    refine .cons ⟨by show 1 ≤ 9000; decide, fun c hc => ?_⟩ (.int _ i1 i2) (kv_row fun q hq => h q (List.mem_cons_of_mem _ hq))
    have : c = p.1 := by simpa [cps] using hc
    rw [this]
    exact h1
theorem low_of {sg : List Nat} {n : Nat} {r : Row} (g : SgOk sg) (h : RowOk sg n r) (hn : n ≤ 64) : ∀ p ∈ r, p.1 < 16 ^ 8 ∧ p.2 < 64 := fun p hp => by
  refine ⟨g.tok.cod p.1 ?_, Nat.lt_of_lt_of_le (h.lt p hp) hn⟩
  have : p.1 ∈ sg := h.sub.subset (List.mem_map.mpr ⟨p, hp, rfl⟩)
  simpa [cps, SX.S] using this
theorem dxall_sts {H : Hp} {sg : List Nat} {n : Nat} (g : SgOk sg) (hn : n ≤ 64) : ∀ {as : List Addr} {st : Sts}, (∀ p ∈ st, RowOk sg n p.1) → Paired (StAtt H) as st → DxAll H (as.map V.ref) (st.map fun p => .tuple [rowD p.1, .bool p.2])
  | _, _, _, .nil => .nil
  | _, _, h, .cons ⟨d, e1, e2⟩ t => .cons (.tup e1 (.cons (.dct e2 (kv_row (low_of g (h _ List.mem_cons_self) hn))) (.cons (.bl _) .nil))) (dxall_sts g hn (fun p hp => h p (List.mem_cons_of_mem _ hp)) t)
theorem dx_sts {H : Hp} {sg : List Nat} {t : Addr} {st : Sts} (g : SgOk sg) (h : StsT H t st) (ok : RowsOk sg st) (few : st.length ≤ 64) : Dx H (.ref t) (stsD st) := by
  obtain ⟨as, h1, h2⟩ := h
  exact .tup h1 (dxall_sts g few ok h2)
theorem dx_made {H : Hp} {sg : List Nat} {v : V} {r : Option Sts} (g : SgOk sg) (h : MadeV H v r) (ok : ∀ st, r = some st → RowsOk sg st ∧ st.length ≤ 64) : Dx H v (madeD r) := by
  cases r with
  | none => cases h; exact .str _ ⟨by decide +kernel, by decide +kernel⟩
  | some st =>
    obtain ⟨t, rfl, ht⟩ := h
    exact dx_sts g ht (ok st rfl).1 (ok st rfl).2
theorem w_row : ∀ r : Row, (∀ p ∈ r, p.2 < 64) → PyData.weightKv (r.map fun p => (PyData.str ⟨#[p.1]⟩, PyData.int (p.2 : Nat))) ≤ 10 * r.length
  | [], _ => Nat.le_refl _
  | p :: r, h => by
    have ih := w_row r fun q hq => h q (List.mem_cons_of_mem _ hq)
    have i : ∀ n : Nat, n < 64 → (PyData.int ((n : Nat) : Int)).weight ≤ 7 := by decide +kernel
    have i1 := i p.2 (h p List.mem_cons_self)
    simp only [List.map_cons, PyData.weightKv, List.length_cons]
    have i2 : (PyData.str ⟨#[p.1]⟩).weight = 1 := by simp [PyData.weight]
    omega
theorem w_sts {n : Nat} : ∀ st : Sts, (∀ p ∈ st, p.1.length ≤ n ∧ ∀ q ∈ p.1, q.2 < 64) → PyData.weightAll (st.map fun p => PyData.tuple [rowD p.1, .bool p.2]) ≤ (10 * n + 3) * st.length
  | [], _ => Nat.le_refl _
  | p :: st, h => by
    have ih := w_sts st fun q hq => h q (List.mem_cons_of_mem _ hq)
    obtain ⟨h1, h2⟩ := h p List.mem_cons_self
    have i1 := w_row p.1 h2
    have i2 : (PyData.tuple [rowD p.1, .bool p.2]).weight = PyData.weightKv (p.1.map fun p => (PyData.str ⟨#[p.1]⟩, PyData.int (p.2 : Nat))) + 2 := by simp only [PyData.weight, PyData.weightAll, rowD]
    simp only [List.map_cons, PyData.weightAll, List.length_cons, i2]
    have : (10 * n + 3) * (st.length + 1) = (10 * n + 3) * st.length + (10 * n + 3) := by rw [Nat.mul_succ]
    omega
theorem d_row : ∀ r : Row, PyData.depthKv (r.map fun p => (PyData.str ⟨#[p.1]⟩, PyData.int (p.2 : Nat))) ≤ 1
  | [] => by simp [PyData.depthKv]
  | p :: r => by
    have ih := d_row r
    simp only [List.map_cons, PyData.depthKv, PyData.depth]
    omega
theorem d_sts : ∀ st : Sts, PyData.depthAll (st.map fun p => PyData.tuple [rowD p.1, .bool p.2]) ≤ 6
  | [] => by simp [PyData.depthAll]
  | p :: st => by
    have ih := d_sts st
    have i := d_row p.1
    have i2 : (PyData.tuple [rowD p.1, .bool p.2]).depth ≤ 5 := by
      simp only [PyData.depthAll, PyData.depth, rowD]
      omega
    simp only [List.map_cons, PyData.depthAll]
    omega
theorem fit_sts {sg : List Nat} {st : Sts} (g : SgOk sg) (ok : RowsOk sg st) (few : st.length ≤ 64) : Fit 5000 8 (stsD st) := by
  have h := w_sts (n := 4) st fun p hp => ⟨by
    have q := (ok p hp).sub.length_le
    rw [List.length_map] at q
    have := g.len.2
    omega, fun q hq => Nat.lt_of_lt_of_le ((ok p hp).lt q hq) few⟩
  have d := d_sts st
  refine ⟨?_, ?_⟩
  · show (PyData.tuple _).weight ≤ _
    simp only [PyData.weight]
    omega
  · show (PyData.tuple _).depth ≤ _
    simp only [PyData.depth]
    omega
theorem fit_made {sg : List Nat} {r : Option Sts} (g : SgOk sg) (ok : ∀ st, r = some st → RowsOk sg st ∧ st.length ≤ 64) : Fit 5000 8 (madeD r) := by
  cases r with
  | none => exact ⟨by decide +kernel, by decide +kernel⟩
  | some st => exact fit_sts g (ok st rfl).1 (ok st rfl).2
/-! ### a list and an empty one -/
def rNeNil : R2 := fun x y H Q => ∃ (a b : Addr) (xs : List V), x = .ref a ∧ y = .ref b ∧ H a = some (.lst xs) ∧ H b = some (.lst []) ∧ Q (.bl (decide (xs ≠ []))) H
theorem op_neNil {X : Cx} (hu : X.A.units + 64 < cLine) : OpR X (compareOp .NotEq) rNeNil := by
  intro pins s σ H x y v u Q I rx ry h
  obtain ⟨a, b, xs, rfl, rfl, h1, h2, q⟩ := h
  obtain rfl : v = Value.ref a := rx
  obtain rfl : u = Value.ref b := ry
  obtain ⟨_, ia, na, ra, oa⟩ := (show ObjOk X.prog X.w H s.heap a (.lst xs) from I.hok a _ h1)
  obtain ⟨_, ib, nb, rb, ob⟩ := (show ObjOk X.prog X.w H s.heap b (.lst []) from I.hok b _ h2)
  cases rb
  have hl := ra.length
  by_cases e : xs = []
  · subst e
    cases ra
    rw [decide_eq_false (show ¬ ([] : List V) ≠ [] from fun z => z rfl)] at q
    exact SeqAt.RcNeAt.lists (e := fun _ => true) ⟨_, oa, rfl, _, rfl⟩ ⟨_, ob, rfl, _, rfl⟩ rfl (by omega) (fun j j1 _ => absurd j1 (Nat.not_lt_zero _)) X.prog X.w _ _ ⟨.bl false, H, I, rfl, q⟩
  · rw [decide_eq_true (show xs ≠ [] from e)] at q
    refine SeqAt.RcNeAt.lists_lengths ⟨_, oa, rfl, _, rfl⟩ ⟨_, ob, rfl, _, rfl⟩ ?_ (by omega) X.prog X.w _ _ ⟨.bl true, H, I, rfl, q⟩
    have : ia ≠ [] := fun z => e (List.length_eq_zero_iff.mp (by rw [hl, z]; rfl))
    simpa using this
/-! ### repr of data or a text -/
section
variable {X : Cx} {k : Nat}
def rReprE : List V → Hp → VK → Prop := fun xs H Q => ∃ (v : V) (d : PyData), xs = [v] ∧ Dx H v d ∧ (((∃ a, v = .ref a) ∧ Fit 100000 30 d) ∨ ∃ z, v = .str z ∧ (reprText z).length ≤ sizeLine) ∧ Q (.str d.shown) H
theorem call_reprE (hr : Rm k X.A) : CallR X (.builtin "repr") rReprE := by
  intro pins s σ H xs us Q I rel h
  obtain ⟨v, d, rfl, hd, c, q⟩ := h
  rcases c with ⟨⟨a, rfl⟩, ft⟩ | ⟨z, rfl, hz⟩
  · exact call_reprD hr pins s σ H [.ref a] us Q I rel ⟨a, d, rfl, hd, ft, q⟩
  · obtain ⟨u, rfl, t, rfl⟩ := vals1 rel
    have e : d = .str z := by cases hd; rfl
    subst e
    rw [PyData.shown_str] at q
    exact PySem.P.repr_of_str ⟨.str _, H, I.tok _, ⟨_, rfl⟩, q⟩ hz
end
end Fs
namespace Fs
open PySem PySem.Spec PyProof.Rows L2 SlX RZ SrtO
open LamX (ExtN Tabs TabS TabB LamS lamEnv lamCx GivesTo tLam CodeO)
def optS (st : Sts) : Option Sts := if st.length ≤ 6 then some st else none
theorem optS_yes {st : Sts} (h : st.length ≤ 6) : optS st = some st := if_pos h
theorem optS_no {st : Sts} (h : ¬ st.length ≤ 6) : optS st = none := if_neg h
theorem optS_ok {sg : List Nat} {st : Sts} (ok : RowsOk sg st) : ∀ st2, optS st = some st2 → RowsOk sg st2 ∧ st2.length ≤ 64 := fun st2 e => by
  unfold optS at e
  by_cases c : st.length ≤ 6
  · rw [if_pos c] at e
    cases e
    exact ⟨ok, by omega⟩
  · rw [if_neg c] at e
    cases e
/-- tuples and dicts stay -/
def TD (H H' : Hp) : Prop := ∀ b o, H b = some o → ((∃ xs, o = .tup xs) ∨ ∃ d, o = .dK d) → H' b = some o
theorem td_n {H H' : Hp} (e : ExtN H H') : TD H H' := fun b o h c => e b o h fun ps z => by
  rcases c with ⟨_, c⟩ | ⟨_, c⟩ <;> rw [c] at z <;> cases z
theorem td_mut {H : Hp} {l : Addr} {xs ys : List V} (h : H l = some (.lst xs)) : TD H (upd H l (.lst ys)) := fun b o hb c => by
  rw [upd_ne]
  · exact hb
  · rintro rfl
    rw [h] at hb
    cases hb
    rcases c with ⟨_, c⟩ | ⟨_, c⟩ <;> cases c
theorem stsT_td {H H' : Hp} (e : TD H H') {t : Addr} {s : Sts} (h : StsT H t s) : StsT H' t s := by
  obtain ⟨as, h1, h2⟩ := h
  exact ⟨as, e _ _ h1 (.inl ⟨_, rfl⟩), L2.Paired.mapP h2 fun _ _ ⟨d, a, b⟩ => ⟨d, e _ _ a (.inl ⟨_, rfl⟩), e _ _ b (.inr ⟨_, rfl⟩)⟩⟩
theorem made_td {H H' : Hp} (e : TD H H') {v : V} {r : Option Sts} (h : MadeV H v r) : MadeV H' v r := by
  cases r with
  | none => exact h
  | some st =>
    obtain ⟨t, rfl, ht⟩ := h
    exact ⟨t, rfl, stsT_td e ht⟩
theorem tabs_mut {T : List (Addr × Str)} {H : Hp} {l : Addr} {xs ys : List V} (t : Tabs T H) (h : H l = some (.lst xs)) : Tabs T (upd H l (.lst ys)) := by
  intro p hp
  obtain ⟨ps, h1, h2, h3⟩ := t p hp
  refine ⟨ps, ?_, h2, fun pos cv hc => ?_⟩
  · rw [upd_ne]
    · exact h1
    · intro e
      rw [e, h] at h1
      cases h1
  · obtain ⟨c, e1, e2⟩ := h3 pos cv hc
    refine ⟨c, e1, ?_⟩
    rw [upd_ne]
    · exact e2
    · intro e
      rw [e, h] at e2
      unfold CodeO at e2
      cases e2
theorem extN_mut {H H1 H2 : Hp} {l : Addr} {o : HO} (e1 : ExtN H H1) (n : H1 l = none) (e : ExtN H H2) : ExtN H (upd H2 l o) := fun b u hb hn => by
  rw [upd_ne]
  · exact e b u hb hn
  · intro c
    have := e1 b u hb hn
    rw [c, n] at this
    cases this
theorem fit_list2 {d1 d2 : PyData} (h1 : Fit 5000 8 d1) (h2 : Fit 5000 8 d2) : Fit 100000 30 (.list [d1, d2]) := by
  have a1 := h1.we
  have a2 := h2.we
  have b1 := h1.de
  have b2 := h2.de
  refine ⟨?_, ?_⟩
  · simp only [PyData.weight, PyData.weightAll]
    omega
  · simp only [PyData.depth, PyData.depthAll]
    omega
theorem fit_more {d : PyData} (h : Fit 5000 8 d) : Fit 100000 30 d := ⟨Nat.le_trans h.we (by decide), Nat.le_trans h.de (by decide)⟩
/-- what the law says of either -/
def orOpt (sg : List Nat) (s1 s2 : Sts) : Option Sts := if (turned sg s1).length ≤ 6 ∧ (turned sg s2).length ≤ 6 ∧ (met sg (turned sg s1) (turned sg s2)).length ≤ 6 ∧ (turned sg (met sg (turned sg s1) (turned sg s2))).length ≤ 6 then some (orRule sg s1 s2) else none
theorem orOpt_yes {sg : List Nat} {s1 s2 : Sts} (h : orSmall sg s1 s2) : orOpt sg s1 s2 = some (orRule sg s1 s2) := if_pos h
theorem orOpt_no {sg : List Nat} {s1 s2 : Sts} (h : ¬ orSmall sg s1 s2) : orOpt sg s1 s2 = none := if_neg h
theorem orOpt_ok {sg : List Nat} {s1 s2 : Sts} (ok : RowsOk sg (orRule sg s1 s2)) : ∀ st2, orOpt sg s1 s2 = some st2 → RowsOk sg st2 ∧ st2.length ≤ 64 := fun st2 e => by
  by_cases c : orSmall sg s1 s2
  · rw [orOpt_yes c] at e
    cases e
    exact ⟨ok, Nat.le_trans c.2.2.2 (by decide)⟩
  · rw [orOpt_no c] at e
    cases e
theorem made_case {H : Hp} {v : V} {r : Option Sts} (h : MadeV H v r) (ft : Fit 5000 8 (madeD r)) : ((∃ a, v = .ref a) ∧ Fit 100000 30 (madeD r)) ∨ ∃ z, v = .str z ∧ (reprText z).length ≤ sizeLine := by
  cases r with
  | none =>
    cases h
    refine .inr ⟨_, rfl, ?_⟩
    have := StrLaws.reprText_len ("many 6" : Str) (by decide +kernel)
    have e : ("many 6" : Str).length = 6 := by decide +kernel
    rw [sizeLine_eq]
    omega
  | some st =>
    obtain ⟨t, rfl, _⟩ := h
    exact .inl ⟨⟨_, rfl⟩, fit_more ft⟩
theorem via {te : TE} {σ : L2.St} {H : Hp} {Q : VK} (G : V → Hp → Prop) (h : ∀ Q1 : VK, (∀ v H1, G v H1 → Q1 v H1) → te σ H Q1) (k : ∀ v H1, G v H1 → Q v H1) : te σ H Q := h Q k
theorem lst2 {te1 te2 : TE} {σ : L2.St} {H : Hp} {Q : VK} (G1 G2 : V → Prop) (h1 : ∀ Q1 : VK, (∀ v, G1 v → Q1 v H) → te1 σ H Q1) (h2 : ∀ Q1 : VK, (∀ v, G2 v → Q1 v H) → te2 σ H Q1)
    (k : ∀ (d1 d2 : V) (p : Addr), G1 d1 → G2 d2 → H p = none → p ≠ sysModules → Q (.ref p) (upd H p (.lst [d1, d2]))) : tLstN (tCons te1 (tCons te2 tNil)) σ H Q :=
  h1 _ fun d1 g1 => h2 _ fun d2 g2 => ⟨by rw [sizeLine_eq]; show 2 ≤ _; omega, fun p hp np => k d1 d2 p g1 g2 hp np⟩
theorem same_new {H : Hp} {p : Addr} {o : HO} (hp : H p = none) : Same H (upd H p o) := same_upd (Same.refl H) hp
section
variable {P : Program} {w : World} {K : PySem.W.Frag} {mg : Str → Option Value} {base : Heap} {C TM c Pt : Addr} {tabs : List (Addr × Str)}
def spBoth (C : Addr) (tabs : List (Addr × Str)) : Sp := fun vs H Q _ => ∃ (x y t1 t2 : Addr) (sg : List Nat) (s1 s2 : Sts), vs = [.ref x, .ref y, .str (SX.S sg), .ref t1, .ref t2] ∧ RuAt H x C sg s1 ∧ RuAt H y C sg s2 ∧ StsT H t1 s1 ∧ StsT H t2 s2 ∧ SgOk sg ∧ StsOk sg s1 ∧ StsOk sg s2 ∧ s1.length ≤ 4 ∧ s2.length ≤ 4 ∧
  Tabs tabs H ∧ ∀ H', ExtN H H' → Tabs tabs H' → Q (.bl true) H'
abbrev s_both_right : Stmt := top 40
theorem sc_both_right : FnScope ["one", "other", "signs", "first", "second", "both", "sides", "told", "due", "parts", "last", "part"] ["one", "other", "signs", "first", "second"] (defScope s_both_right) := ⟨rfl, rfl, rfl, by decide +kernel, rfl, by decide +kernel, by decide +kernel⟩
theorem cal_both (T : Bs mg) (Z : Rx K mg C) (Y : TMy K mg TM) (D : DfC K mg "_law_both_right" s_both_right ["one", "other", "signs", "first", "second"] c) (D_made : Df K mg "_law_made" s_made ["call"]) (C_met : Cal P w K mg base 1 "_law_met" spLMet) (C_turned : Cal P w K mg base 1 "_law_turned" spLTur)
    (P_states : PrP P w K mg base C "states" 1 (spSt C)) (O_and : OpP P w K mg base (L2.CX P w) C .BitAnd 7 (spAnd C TM)) (O_or : OpP P w K mg base (L2.CX P w) C .BitOr 7 (spOr C TM)) (M_negated : MthP P w K mg base (L2.CX P w) C "negated" 7 (spNeg C TM))
    (TB : TabB base mg c Pt) (hT : (Pt, lamN "_law_both_right") ∈ tabs) (hu : ∀ p ∈ tabs, p.1 = Pt → p.2 = lamN "_law_both_right") : Cal P w K mg base 10 "_law_both_right" (spBoth C tabs) := by
  refine D.cal sc_both_right (fun vs H Q E h => ?_) (fun f A outer s H vs Q E hr h => ?_)
  · obtain ⟨x, y, t1, t2, sg, s1, s2, rfl, _⟩ := h
    rfl
  · obtain ⟨x, y, t1, t2, sg, s1, s2, rfl, r1, r2, st1, st2, sgo, o1, o2, m1, m2, ht, k⟩ := h
    refine ⟨_, pss_cons (ps_par (i := 5) (j := 6) rfl sc_both_right.nd rfl rfl (by decide) rfl rfl (pa_cons (pc C_met hr (pa_cons (pv 2) (pa_cons (pv 3) (pa_cons (pv 4) pa_nil)))) (pa_cons (pe_lstN (pa_cons (pc C_turned hr (pa_cons (pv 2) (pa_cons (pv 3) pa_nil))) (pa_cons (pc C_turned hr (pa_cons (pv 2) (pa_cons (pv 4) pa_nil))) pa_nil))) pa_nil)) (by rfl))
      (pss_cons (ps_set (i := 7) sc_both_right.nd rfl (.inl rfl) (pe_lstN (pa_cons (pe_made (k := 6) D_made T Y Z.sc P_states TB qual_cx hT hu rfl (hr.rm.mono (by decide)) (lamS_cx (by decide +kernel)) (fun A outer s H E f c' hr2 => pe_binM O_and Z.sf hr2 (passes_call (takes_of rfl rfl rfl rfl) (fun _ _ _ _ h => h)) (pv 0) (pv 1))) pa_nil)))
      (pss_cons (ps_expr (pe_bm PySem.F.plainAttrs_list PySem.F.slot_list_append PySem.F.type_list_append mt_append (pv 7) (pa_cons (pe_made (k := 6) D_made T Y Z.sc P_states TB qual_cx hT hu rfl (hr.rm.mono (by decide)) (lamS_cx (by decide +kernel)) (fun A outer s H E f c' hr2 => pmP0 M_negated Z.sc hr2 (passes_call (takes_of rfl rfl rfl rfl) (fun _ _ _ _ h => h)) (pv 0))) pa_nil)))
      (pss_cons (ps_set (i := 8) sc_both_right.nd rfl (.inl rfl) (pe_lstN (pa_cons (pe_ifExp (pt_cmpR op_lt (pb call_len3 T.z_len (pa_cons (pv 5) pa_nil)) pe_int (nomark _)) (pv 5) pe_str) (pa_cons (pe_ifExp (pt_cmpR op_lt (pb call_len3 T.z_len (pa_cons (pe_ix ix_list (pv 6) pe_int (fun _ _ => rfl)) pa_nil)) pe_int (nomark _)) (pe_ix ix_list (pv 6) pe_int (fun _ _ => rfl)) pe_str) pa_nil))))
      (pss_cons (ps_if (pt_cmpR op_ne (pb (call_reprE hr) T.z_repr (pa_cons (pv 7) pa_nil)) (pb (call_reprE hr) T.z_repr (pa_cons (pv 8) pa_nil)) (nomark _))
        (pss_one (ps_ret pe_bl))
        pss_nil)
      (pss_cons (ps_set (i := 9) sc_both_right.nd rfl (.inl rfl) (pe_lstN (pa_cons (pe_ix ix_list (pv 6) pe_int (fun _ _ => rfl)) (pa_cons (pe_ix ix_list (pv 6) pe_int (fun _ _ => rfl)) (pa_cons (pc C_met hr (pa_cons (pv 2) (pa_cons (pe_ix ix_list (pv 6) pe_int (fun _ _ => rfl)) (pa_cons (pe_ix ix_list (pv 6) pe_int (fun _ _ => rfl)) pa_nil)))) pa_nil)))))
      (pss_cons (ps_set (i := 10) sc_both_right.nd rfl (.inl rfl) (pc C_turned hr (pa_cons (pv 2) (pa_cons (pe_ix ix_list (pv 9) pe_int (fun _ _ => rfl)) pa_nil))))
      (pss_cons (ps_set (i := 8) sc_both_right.nd rfl (.inl rfl) (pe_ifExp (pt_cmpR (op_neNil hr.rm.units) (pe_lc (own := [("part", 11)]) (te := (tVar 11)) (tt := (tTest (tOp (rI0 fun i j => .bl (decide (j < i))) (tCB (rLen3 K) (tCons (tVar 11) tNil)) (tC (.int 6))))) rfl sc_both_right.nd (pi_list (pe_op op_cat (pv 9) (pe_lstN (pa_cons (pv 10) pa_nil)))) (blkOk_by (N := ["one", "other", "signs", "first", "second", "both", "sides", "told", "due", "parts", "last", "part"]) (sc := defScope s_both_right) (by decide +kernel)) (fun _ _ _ _ _ => (pg_name (i := 11) sc_both_right.nd rfl (Or.inl rfl))) (fun _ _ _ _ _ => (pts_one (pt_cmpR op_gt (pb call_len3 T.z_len (pa_cons (pv 11) pa_nil)) pe_int (nomark _)))) (fun _ _ _ _ _ => (pv 11))) (pe_lstN pa_nil) (nomark _)) pe_str (pv 10)))
      (pss_one (ps_ret (pe_cmpR op_eq (pb (call_reprE hr) T.z_repr (pa_cons (pe_made (k := 6) D_made T Y Z.sc P_states TB qual_cx hT hu rfl (hr.rm.mono (by decide)) (lamS_cx (by decide +kernel)) (fun A outer s H E f c' hr2 => pe_binM O_or Z.sf hr2 (passes_call (takes_of rfl rfl rfl rfl) (fun _ _ _ _ h => h)) (pv 0) (pv 1))) pa_nil)) (pb (call_reprE hr) T.z_repr (pa_cons (pv 8) pa_nil)) (nomark _))))))))))), ?_⟩
    have ro1 := o1.rowsOk
    have ro2 := o2.rowsOk
    have p1 := o1.pos
    have p2 := o2.pos
    refine ⟨_, rfl, _, rfl, _, rfl, t1, t2, sg, s1, s2, rfl, st1, st2, ro1, ro2, p1, p2, by omega, by omega, sgo, fun tb H1 e1 sb => ?_⟩
    refine ⟨_, rfl, _, rfl, t1, sg, s1, rfl, st1.le e1, ro1, p1, by omega, sgo, fun ta H2 e2 sa => ?_⟩
    refine ⟨_, rfl, _, rfl, t2, sg, s2, rfl, (st2.le e1).le e2, ro2, p2, by omega, sgo, fun tc H3 e3 sc => ?_⟩
    have o3 := (met_rows ro1 ro2 p1 p2)
    have o4 := (turned_rows ro1 p1)
    have o5 := (turned_rows ro2 p2)
    have l2 : (2 : Nat) ≤ sizeLine := by rw [sizeLine_eq]; omega
    refine ⟨l2, fun ls hls nls => ⟨_, _, rfl, ?_⟩⟩
    have f4 : Same H (upd H3 ls (.lst [.ref ta, .ref tc])) := ((e1.trans e2).trans e3).trans (same_new hls)
    have t4 := ht.ext f4
    have sb4 := ((sb.le e2).le e3).le (same_new (o := .lst [.ref ta, .ref tc]) hls)
    have sa4 := (sa.le e3).le (same_new (o := .lst [.ref ta, .ref tc]) hls)
    have sc4 := sc.le (same_new (o := .lst [.ref ta, .ref tc]) hls)
    have ls4 : (upd H3 ls (.lst [.ref ta, .ref tc])) ls = some (.lst [.ref ta, .ref tc]) := upd_same
    generalize upd H3 ls (.lst [.ref ta, .ref tc]) = H4 at f4 t4 sb4 sa4 sc4 ls4
    refine made_ok (sg := sg) (r := optS (met sg s1 s2)) t4 (fun H5 E5 Q5 e5 good bad => ?_) (fun v H6 e6 t6 mv => ?_)
    · have q1 := ruAt_n e5 (r1.le f4)
      have q2 := ruAt_n e5 (r2.le f4)
      have q1' := q1
      have q2' := q2
      obtain ⟨dx, _, _, _, slx, _⟩ := q1'
      obtain ⟨dy, _, _, _, sly, _⟩ := q2'
      exact ⟨_, rfl, _, rfl, x, dx, y, dy, _, _, rfl, rfl, slx, sly, x, y, sg, s1, s2, rfl, q1, q2, sgo, o1, o2, fun le z H' e n rz => good _ (optS_yes le) z H' e rz le, fun gt => bad (optS_no (by omega))⟩
    refine ⟨by rw [sizeLine_eq]; show 1 ≤ _; omega, fun lt hlt nlt => ?_⟩
    have f6 : ExtN H H6 := (extN_same f4).trans e6
    have f7 : ExtN H (upd H6 lt (.lst [v])) := f6.trans (extN_same (same_new hlt))
    have n7 := e6.trans (extN_same (same_new (o := .lst [v]) hlt))
    have t7 := t6.ext (same_new (o := .lst [v]) hlt)
    have lt7 : (upd H6 lt (.lst [v])) lt = some (.lst [v]) := upd_same
    have sb7 := stsT_n n7 sb4
    have sa7 := stsT_n n7 sa4
    have sc7 := stsT_n n7 sc4
    have ls7 := n7 _ _ ls4 (fun _ z => nomatch z)
    have mv7 : MadeV (upd H6 lt (.lst [v])) v (optS (met sg s1 s2)) := made_td (td_n (extN_same (same_new hlt))) mv
    have nls6 : ls ≠ lt := ne_of_none (e6 _ _ ls4 (fun _ z => nomatch z)) hlt
    generalize upd H6 lt (.lst [v]) = H7 at f7 n7 t7 lt7 sb7 sa7 sc7 ls7 mv7
    refine ⟨_, rfl, .inl ⟨rfl, _, SqL.of lt7⟩, made_ok (sg := sg) (r := optS (turned sg s1)) t7 (fun H8 E8 Q8 e8 good bad => ?_) (fun v2 H9 e9 t9 mv2 => ?_)⟩
    · have q1 := ruAt_n e8 (ruAt_n f7 r1)
      have q1' := q1
      obtain ⟨dx, _, _, _, slx, _⟩ := q1'
      exact ⟨_, rfl, x, dx, _, rfl, slx, x, sg, s1, rfl, q1, sgo, o1, fun le z H' e n rz => good _ (optS_yes le) z H' e rz le, fun gt => bad (optS_no (by omega))⟩
    have f9 : ExtN H H9 := f7.trans e9
    have lt9 := e9 _ _ lt7 (fun _ z => nomatch z)
    have ls9 := e9 _ _ ls7 (fun _ z => nomatch z)
    refine ⟨lt, _, v2, rfl, rfl, lt9, by rw [sizeLine_eq]; show 1 < _; omega, ?_⟩
    have td := td_mut (ys := [v] ++ [v2]) lt9
    have sb10 := stsT_td td (stsT_n e9 sb7)
    have sa10 := stsT_td td (stsT_n e9 sa7)
    have sc10 := stsT_td td (stsT_n e9 sc7)
    have mv10 := made_td td (made_td (td_n e9) mv7)
    have mw10 := made_td td mv2
    have t10 := tabs_mut (ys := [v] ++ [v2]) t9 lt9
    have f10 : ExtN H (upd H9 lt (.lst ([v] ++ [v2]))) := extN_mut f6 hlt f9
    have lt10 : (upd H9 lt (.lst ([v] ++ [v2]))) lt = some (.lst [v, v2]) := upd_same
    have ls10 : (upd H9 lt (.lst ([v] ++ [v2]))) ls = some (.lst [.ref ta, .ref tc]) := by rw [upd_ne nls6]; exact ls9
    generalize upd H9 lt (.lst ([v] ++ [v2])) = H10 at sb10 sa10 sc10 mv10 mw10 t10 f10 lt10 ls10
    have lenI : ∀ {st : Sts} {as : List Addr}, Paired (StAtt H10) as st → (as.map V.ref).length = st.length := fun h => by rw [List.length_map]; exact paired_len h
    dsimp only
    unfold tSeq tAsg
    dsimp only
    refine lst2 (fun v => MadeV H10 v (optS (met sg s1 s2))) (fun v => MadeV H10 v (optS (turned sg s1))) (fun Q1 hQ => ?_) (fun Q1 hQ => ?_) (fun d1 d2 ld g1 g2 hld nld => ?_)
    · obtain ⟨as, h1, h2⟩ := id sb10
      refine ⟨_, rfl, _, _, rfl, Of3.tup h1, ?_⟩
      have le := lenI h2
      exact ⟨_, _, rfl, rfl, _, rfl, ite2 (fun c => ⟨_, rfl, hQ _ (by rw [optS_yes (by have := of_decide_eq_true c; omega)]; exact ⟨tb, rfl, sb10⟩)⟩) (fun c => hQ _ (by rw [optS_no (fun z => c (decide_eq_true (by omega)))]; rfl))⟩
    · obtain ⟨as, h1, h2⟩ := id sa10
      have le := lenI h2
      exact ⟨_, rfl, ls, _, 0, _, rfl, rfl, SqL.of ls10, rfl, _, _, rfl, Of3.tup h1, _, _, rfl, rfl, _, rfl, ite2 (fun c => ⟨_, rfl, ls, _, 0, _, rfl, rfl, SqL.of ls10, rfl, hQ _ (by rw [optS_yes (by have := of_decide_eq_true c; omega)]; exact ⟨ta, rfl, sa10⟩)⟩)
        (fun c => hQ _ (by rw [optS_no (fun z => c (decide_eq_true (by omega)))]; rfl))⟩
    have f11 : ExtN H (upd H10 ld (.lst [d1, d2])) := f10.trans (extN_same (same_new hld))
    have s11 : Same H10 (upd H10 ld (.lst [d1, d2])) := same_new hld
    have ld11 : (upd H10 ld (.lst [d1, d2])) ld = some (.lst [d1, d2]) := upd_same
    generalize upd H10 ld (.lst [d1, d2]) = H11 at f11 s11 ld11
    have t11 := t10.ext s11
    have td11 : TD H10 H11 := fun b o h _ => s11 b o h
    have lt11 := s11 _ _ lt10
    have ls11 := s11 _ _ ls10
    have sa11 := sa10.le s11
    have sc11 := sc10.le s11
    have x1 := dx_made sgo (made_td td11 mv10) (optS_ok o3.1)
    have x2 := dx_made sgo (made_td td11 mw10) (optS_ok o4.1)
    have y1 := dx_made sgo (made_td td11 g1) (optS_ok o3.1)
    have y2 := dx_made sgo (made_td td11 g2) (optS_ok o4.1)
    have ft := fit_list2 (fit_made sgo (optS_ok o3.1)) (fit_made sgo (optS_ok o4.1))
    refine ⟨_, rfl, .ref lt, _, rfl, .lst lt11 nlt (.cons x1 (.cons x2 .nil)), .inl ⟨⟨_, rfl⟩, ft⟩, ?_⟩
    refine ⟨_, rfl, .ref ld, _, rfl, .lst ld11 nld (.cons y1 (.cons y2 .nil)), .inl ⟨⟨_, rfl⟩, ft⟩, rfl, _, rfl, ?_⟩
    refine ite2 (fun z => ?_) (fun _ => ?_)
    · simp at z
    have o6 := met_rows o4.1 o5.1 o4.2.1 o5.2.1
    have l6 : (met sg (turned sg s1) (turned sg s2)).length ≤ 25 := Nat.le_trans o6.2.2 (Nat.le_trans (Nat.mul_le_mul (show _ ≤ 5 by omega) (show _ ≤ 5 by omega)) (by decide))
    have o7 := turned_rows o6.1 o6.2.1
    refine ⟨_, rfl, ls, _, 0, _, rfl, rfl, SqL.of ls11, rfl, _, rfl, ls, _, 1, _, rfl, rfl, SqL.of ls11, rfl, _, rfl, _, rfl, ls, _, 0, _, rfl, rfl, SqL.of ls11, rfl, _, rfl, ls, _, 1, _, rfl, rfl, SqL.of ls11, rfl,
      ta, tc, sg, turned sg s1, turned sg s2, rfl, sa11, sc11, o4.1, o5.1, o4.2.1, o5.2.1, by omega, by omega, sgo, fun tm H12 e12 sm => ⟨by rw [sizeLine_eq]; show 3 ≤ _; omega, fun lp hlp nlp => ?_⟩⟩
    have s13 : Same H11 (upd H12 lp (.lst [.ref ta, .ref tc, .ref tm])) := e12.trans (same_new hlp)
    have sm13 := sm.le (same_new (o := .lst [.ref ta, .ref tc, .ref tm]) hlp)
    have lp13 : (upd H12 lp (.lst [.ref ta, .ref tc, .ref tm])) lp = some (.lst [.ref ta, .ref tc, .ref tm]) := upd_same
    generalize upd H12 lp (.lst [.ref ta, .ref tc, .ref tm]) = H13 at s13 sm13 lp13
    refine ⟨_, rfl, _, rfl, lp, _, 2, _, rfl, rfl, SqL.of lp13, rfl, tm, sg, met sg (turned sg s1) (turned sg s2), rfl, sm13, o6.1, o6.2.1, by omega, sgo, fun tl H14 e14 sl => ?_⟩
    dsimp only
    refine via (fun v H' => Same H14 H' ∧ MadeV H' v (orOpt sg s1 s2)) (fun Q1 hQ => ?_) (fun d3 H15 g15 => ?_)
    · refine ⟨_, rfl, _, rfl, by rw [sizeLine_eq]; show 1 ≤ _; omega, fun lq hlq _ => ⟨lp, lq, _, _, rfl, rfl, same_new hlq _ _ (e14 _ _ lp13), upd_same, by rw [sizeLine_eq]; show 4 ≤ _; omega, fun lc hlc => ⟨_, rfl, ⟨_, SqL.of upd_same⟩, fun D hD => ?_⟩⟩⟩
      have s15 : Same H14 (upd (upd H14 lq (.lst [.ref tl])) lc (.lst ([V.ref ta, .ref tc, .ref tm] ++ [.ref tl]))) := (same_new hlq).trans (same_new hlc)
      have lc15 : (upd (upd H14 lq (.lst [.ref tl])) lc (.lst ([V.ref ta, .ref tc, .ref tm] ++ [.ref tl]))) lc = some (.lst ([V.ref ta, .ref tc, .ref tm] ++ [.ref tl])) := upd_same
      generalize upd (upd H14 lq (.lst [.ref tl])) lc (.lst ([V.ref ta, .ref tc, .ref tm] ++ [.ref tl])) = H15 at s15 lc15 hD
      obtain ⟨ps, eps⟩ : ∃ ps : List (Addr × Sts), ps = [(ta, turned sg s1), (tc, turned sg s2), (tm, met sg (turned sg s1) (turned sg s2)), (tl, turned sg (met sg (turned sg s1) (turned sg s2)))] := ⟨_, rfl⟩
      have lc15' : H15 lc = some (.lst (ps.map fun q => V.ref q.1)) := by rw [lc15, eps]; rfl
      have sps : ∀ q ∈ ps, StsT H15 q.1 q.2 := by
        intro q hq
        rw [eps] at hq
        have s1115 := (s13.trans e14).trans s15
        rcases List.mem_cons.mp hq with e | hq
        · rw [e]; exact sa11.le s1115
        rcases List.mem_cons.mp hq with e | hq
        · rw [e]; exact sc11.le s1115
        rcases List.mem_cons.mp hq with e | hq
        · rw [e]; exact (sm13.le e14).le s15
        · rw [List.mem_singleton.mp hq]; exact sl.le s15
      refine lc_it (walk_list (xs := ps.map fun q => V.ref q.1)) (fun i H => Same H15 H ∧ H D = some (.lst (((ps.take i).filter fun q => decide (6 < q.2.length)).map fun q => V.ref q.1))) ?_ ?_ ?_ ?_
      · exact ⟨same_new hD, upd_same⟩
      · rintro i H9 _ ⟨f1, _⟩
        exact SqL.of (f1 _ _ lc15')
      · rintro i v H9 Ha hi ⟨f1, f2⟩ ⟨rfl, hv⟩
        rw [List.getElem?_map] at hv
        cases hq : ps[i]? with
        | none => rw [hq] at hv; cases hv
        | some q =>
          rw [hq] at hv
          cases hv
          obtain ⟨as, h1, h2⟩ := (sps q (List.mem_of_getElem? hq)).le f1
          have le : (as.map V.ref).length = q.2.length := by rw [List.length_map]; exact paired_len h2
          have et : ps.take (i + 1) = ps.take i ++ [q] := by rw [List.take_add_one, hq]; rfl
          refine ⟨rfl, _, rfl, _, _, rfl, Of3.tup h1, _, _, rfl, rfl, _, rfl, ite2 (fun c => ?_) (fun c => ?_)⟩
          · have big : 6 < q.2.length := by have := of_decide_eq_true c; omega
            refine ⟨_, rfl, _, f2, ?_, fun b o h => ?_, ?_⟩
            · have a1 := List.length_filter_le (fun q : Addr × Sts => decide (6 < q.2.length)) (ps.take i)
              have a2 : (ps.take i).length ≤ 4 := by
                rw [List.length_take, show ps.length = 4 by rw [eps]; rfl]
                omega
              rw [List.length_map, sizeLine_eq]
              exact Nat.lt_of_le_of_lt (Nat.le_trans a1 a2) (by decide)
            · rw [upd_ne (ne_of_none (show H15 b = some o from h) hD)]
              exact f1 _ _ h
            · rw [upd_same, et, List.filter_append, List.map_append]
              rw [List.filter_cons_of_pos (by exact decide_eq_true big)]
              rfl
          · have small : ¬ 6 < q.2.length := fun z => c (decide_eq_true (by omega))
            refine ⟨f1, ?_⟩
            rw [f2, et, List.filter_append, List.filter_cons_of_neg (by simpa using small), List.filter_nil, List.append_nil]
      · rintro H9 ⟨f1, f2⟩
        refine ⟨by show 0 ≤ sizeLine; exact Nat.zero_le _, fun E2 hE2 _ => ?_⟩
        have s9 := same_new (o := .lst []) hE2
        refine ⟨D, E2, _, rfl, rfl, s9 _ _ f2, upd_same, _, rfl, ?_⟩
        have sN := (s15.trans f1).trans s9
        have slN := sl.le sN
        have et : ps.take (ps.map fun q => V.ref q.1).length = ps := List.take_of_length_le (by rw [List.length_map]; exact Nat.le_refl _)
        rw [et]
        generalize upd H9 E2 (.lst []) = HN at sN slN
        refine ite2 (fun c => hQ _ _ ⟨sN, ?_⟩) (fun c => ⟨_, rfl, hQ _ _ ⟨sN, ?_⟩⟩)
        · have c := of_decide_eq_true c
          rw [orOpt_no fun hs => c ?_]
          · rfl
          · rw [List.map_eq_nil_iff, List.filter_eq_nil_iff]
            intro q hq
            rw [eps] at hq
            obtain ⟨z1, z2, z3, z4⟩ := hs
            rw [decide_eq_true_eq]
            rcases List.mem_cons.mp hq with e | hq
            · rw [e]; exact Nat.not_lt.mpr z1
            rcases List.mem_cons.mp hq with e | hq
            · rw [e]; exact Nat.not_lt.mpr z2
            rcases List.mem_cons.mp hq with e | hq
            · rw [e]; exact Nat.not_lt.mpr z3
            · rw [List.mem_singleton.mp hq]; exact Nat.not_lt.mpr z4
        · have hs : orSmall sg s1 s2 := by
            have hn : (ps.filter fun q => decide (6 < q.2.length)) = [] := Classical.byContradiction fun z => c (decide_eq_true fun e => z (List.map_eq_nil_iff.mp e))
            rw [List.filter_eq_nil_iff] at hn
            have z : ∀ q ∈ ps, q.2.length ≤ 6 := fun q hq => by
              have := hn q hq
              rw [decide_eq_true_eq] at this
              omega
            rw [eps] at z
            have z1 := z (ta, turned sg s1) (.head _)
            have z2 := z (tc, turned sg s2) (.tail _ (.head _))
            have z3 := z (tm, met sg (turned sg s1) (turned sg s2)) (.tail _ (.tail _ (.head _)))
            have z4 := z (tl, turned sg (met sg (turned sg s1) (turned sg s2))) (.tail _ (.tail _ (.tail _ (.head _))))
            exact And.intro z1 (And.intro z2 (And.intro z3 z4))
          rw [orOpt_yes hs]
          exact ⟨tl, rfl, slN⟩
    · have s15 := (s13.trans e14).trans g15.1
      have t15 := t11.ext s15
      have f15 := f11.trans (extN_same s15)
      refine made_ok (sg := sg) (r := orOpt sg s1 s2) t15 (fun H16 E6 Q6 e6' good bad => ?_) (fun v H17 e17 t17 mv => ?_)
      · have q1 := ruAt_n e6' (ruAt_n f15 r1)
        have q2 := ruAt_n e6' (ruAt_n f15 r2)
        have q1' := q1
        have q2' := q2
        obtain ⟨dx, _, _, _, slx, _⟩ := q1'
        obtain ⟨dy, _, _, _, sly, _⟩ := q2'
        exact ⟨_, rfl, _, rfl, x, dx, y, dy, _, _, rfl, rfl, slx, sly, x, y, sg, s1, s2, rfl, q1, q2, sgo, o1, o2, fun le z H' e n rz => good _ (orOpt_yes le) z H' e rz le.2.2.2, fun gt => bad (orOpt_no gt)⟩
      have ft := fit_made sgo (orOpt_ok o7.1)
      have g17 := made_td (td_n e17) g15.2
      refine ⟨v, _, rfl, dx_made sgo mv (orOpt_ok o7.1), made_case mv ft, _, rfl, d3, _, rfl, dx_made sgo g17 (orOpt_ok o7.1), made_case g17 ft, rfl, ?_⟩
      rw [decide_eq_true rfl]
      exact k _ (f15.trans e17) t17
end
end Fs
namespace Fs
open PySem PySem.Spec PyProof.Rows L2 SlX RZ SrtO
open LamX (ExtN Tabs TabS TabB LamS lamEnv lamCx GivesTo tLam CodeO)
/-! ### all but what stands at a, and the tables -/
def KeepN (a : Addr) (H H' : Hp) : Prop := ∀ b o, b ≠ a → H b = some o → (∀ ps, o ≠ .tbl ps) → H' b = some o
theorem KeepN.trans {a : Addr} {H H1 H2 : Hp} (x : KeepN a H H1) (y : KeepN a H1 H2) : KeepN a H H2 := fun b o n h t => y b o n (x b o n h t) t
theorem keepN_stp {a : Addr} {H H' : Hp} (e : Stp a H H') : KeepN a H H' := fun b o n h _ => e.get h n
theorem keepN_n {a : Addr} {H H' : Hp} (e : ExtN H H') : KeepN a H H' := fun b o _ h t => e b o h t
theorem keepN_same {a : Addr} {H H' : Hp} (e : Same H H') : KeepN a H H' := fun b o _ h _ => e b o h
theorem tabs_stp {T : List (Addr × Str)} {a : Addr} {H H' : Hp} (t : Tabs T H) (p : Pot H a) (e : Stp a H H') : Tabs T H' := by
  obtain ⟨p0, p1, p2, hp, _⟩ := p.ex
  intro q hq
  obtain ⟨ps, h1, h2, h3⟩ := t q hq
  refine ⟨ps, e.get h1 (fun z => ?_), h2, fun pos cv hc => ?_⟩
  · rw [z, hp] at h1
    cases h1
  · obtain ⟨c, e1, e2⟩ := h3 pos cv hc
    refine ⟨c, e1, e.get e2 fun z => ?_⟩
    rw [z, hp] at e2
    unfold CodeO at e2
    cases e2
theorem same_pot {H H' : Hp} {a : Addr} (e : Same H H') (p : Pot H a) : Stp a H H' := by
  obtain ⟨p0, p1, p2, hp, r⟩ := p.ex
  refine ⟨⟨p0, p1, p2, e _ _ hp, r⟩, fun b o h => ?_⟩
  obtain ⟨n, h⟩ := hid_some h
  rw [hid_ne n]
  exact e b o h
theorem mk_same {C x dx : Addr} {H : Hp} (hx : H x = none) (hdx : H dx = none) : Same H (upd (upd H dx (.own x)) x (.ins C dx [])) := fun b o q => by
  rw [upd_ne (ne_of_none q hx), upd_ne (ne_of_none q hdx)]; exact q
theorem td_stp {a : Addr} {H H' : Hp} (p : Pot H a) (e : Stp a H H') : TD H H' := fun b o h c => by
  obtain ⟨p0, p1, p2, hp, _⟩ := p.ex
  refine e.get h fun z => ?_
  rw [z, hp] at h
  cases h
  rcases c with ⟨_, c⟩ | ⟨_, c⟩ <;> cases c
theorem ru_stp {a : Addr} {H H' : Hp} (p : Pot H a) (e : Stp a H H') {x C : Addr} {sg : List Nat} {st : Sts} (h : RuAt H x C sg st) (pos : 1 ≤ st.length) : RuAt H' x C sg st := by
  obtain ⟨p0, p1, p2, hp, _⟩ := p.ex
  obtain ⟨dx, lg, lm, ds, h1, h2, h3, h4⟩ := h
  have ld := paired_len h4
  refine ⟨dx, lg, lm, ds, ?_, e.get h2 fun z => ?_, e.get h3 fun z => ?_, L2.Paired.mapP h4 fun d r hd => e.get hd fun z => ?_⟩
  · rcases h1 with ⟨h, r⟩ | ⟨h, r⟩
    · exact .inl ⟨e.get h (fun z => by rw [z, hp] at h; cases h), r⟩
    · exact .inr ⟨e.get h (fun z => by rw [z, hp] at h; unfold SlO at h; cases h), e.get r (fun z => by rw [z, hp] at r; cases r)⟩
  · rw [z, hp] at h2
    injection h2 with h2
    injection h2 with h2
    cases st with
    | nil => cases h2
    | cons q st => rw [List.map_cons] at h2; injection h2 with h2 _; cases h2
  · rw [z, hp] at h3
    injection h3 with h3
    injection h3 with h3
    cases ds with
    | nil => cases h3
    | cons q ds => rw [List.map_cons] at h3; injection h3 with h3 _; cases h3
  · have hd : H d = some (.dK (kRow r.1)) := hd
    rw [z, hp] at hd
    cases hd
theorem words_ok {sg : List Nat} {ws : List Wd} {c m : Nat} (sgo : SgOk sg) (hc : c ∈ sg) (hm : m ≤ 8) (h : ∀ u ∈ ws, u.length ≤ m ∧ ∀ c ∈ u, c ∈ sg) : ∀ z ∈ (ws.map fun u => SX.S u) ++ [Txt.mul ⟨#[c]⟩ 300], TOk z ∧ wordL (SX.S sg) z = true := by
  have low : ∀ d ∈ sg, d < 128 := fun d hd => (lo_signs (x := SX.S sg) sgo.ok).cod d hd
  intro z hz
  rcases List.mem_append.mp hz with hz | hz
  · obtain ⟨u, hu, rfl⟩ := List.mem_map.mp hz
    obtain ⟨h1, h2⟩ := h u hu
    refine ⟨Lo.tok (n := 8) ⟨by rw [S_len]; omega, fun d hd => low d (h2 d hd)⟩ (by decide), List.all_eq_true.mpr fun d hd => decide_eq_true (h2 d hd)⟩
  · rw [List.mem_singleton.mp hz]
    have lo1 : Lo 1 (⟨#[c]⟩ : Str) := ⟨Nat.le_refl 1, fun d hd => by
      have : d = c := by simpa [cps] using hd
      rw [this]
      exact low c hc⟩
    refine ⟨Lo.tok (Lo.mul lo1 (m := 300) (by decide)) (by decide), List.all_eq_true.mpr fun d hd => decide_eq_true ?_⟩
    have hd' : d ∈ cps (⟨#[c]⟩ : Str) := by
      unfold Txt.mul at hd
      split at hd
      · cases hd
      · split at hd
        · exact hd
        · rcases foldl_rep _ _ _ d hd with h | h
          · cases h
          · exact h
    have : d = c := by simpa [cps] using hd'
    rw [this]
    exact hc
theorem stsN_head {H H' : Hp} {t : Addr} {st : Sts} (h : StsN H H' t st) (pos : 1 ≤ st.length) : ∃ (a0 : Addr) (as : List Addr) (d : Addr) (g : V) (kv : List (Key × V)), H' t = some (.tup ((a0 :: as).map V.ref)) ∧ H' a0 = some (.tup [.ref d, g]) ∧ H' d = some (.dK kv) ∧ H d = none := by
  obtain ⟨as, h1, h2⟩ := h
  cases h2 with
  | nil => exact absurd pos (by decide)
  | cons r _ =>
    obtain ⟨d, a1, a2, a3⟩ := r
    exact ⟨_, _, d, _, _, h1, a1, a2, a3⟩
theorem str_eq {x : Str} {l : List Nat} (h : cps x = l) : x = SX.S l := cps_inj h
theorem sg_of {v : V} (h : v ∈ [V.str "a", .str "ab", .str "ab", .str "bxy"]) : ∃ sg, v = .str (SX.S sg) ∧ SgOk sg ∧ sg.length ≤ 3 := by
  have c1 : ∃ sg, V.str "a" = .str (SX.S sg) ∧ SgOk sg ∧ sg.length ≤ 3 := ⟨[97], by rw [str_eq (x := "a") (l := [97]) (by decide +kernel)], ⟨by decide +kernel⟩, by decide⟩
  have c2 : ∃ sg, V.str "ab" = .str (SX.S sg) ∧ SgOk sg ∧ sg.length ≤ 3 := ⟨[97, 98], by rw [str_eq (x := "ab") (l := [97, 98]) (by decide +kernel)], ⟨by decide +kernel⟩, by decide⟩
  have c3 : ∃ sg, V.str "bxy" = .str (SX.S sg) ∧ SgOk sg ∧ sg.length ≤ 3 := ⟨[98, 120, 121], by rw [str_eq (x := "bxy") (l := [98, 120, 121]) (by decide +kernel)], ⟨by decide +kernel⟩, by decide⟩
  rcases List.mem_cons.mp h with rfl | h
  · exact c1
  rcases List.mem_cons.mp h with rfl | h
  · exact c2
  rcases List.mem_cons.mp h with rfl | h
  · exact c2
  rcases List.mem_singleton.mp h with rfl
  exact c3
theorem pick_most : ∀ n : Nat, 1 ≤ n → n ≤ 3 → ∃ m : Nat, m ≤ 8 ∧ atI [V.int 8, .int 5, .int 4] ((n : Int) - 1) = some (.int (m : Nat))
  | 1, _, _ => ⟨8, by decide, rfl⟩
  | 2, _, _ => ⟨5, by decide, rfl⟩
  | 3, _, _ => ⟨4, by decide, rfl⟩
section
variable {P : Program} {w : World} {K : PySem.W.Frag} {mg : Str → Option Value} {base : Heap} {C TM c Pt : Addr} {tabs : List (Addr × Str)}
def spRight (tabs : List (Addr × Str)) : Sp := fun vs H Q _ => ∃ a : Addr, vs = [.ref a] ∧ Pot H a ∧ Tabs tabs H ∧ ∀ H', KeepN a H H' → Pot H' a → Tabs tabs H' → Q (.bl true) H'
abbrev s_right : Stmt := top 41
theorem sc_right : FnScope ["feed", "signs", "first", "second", "one", "other", "words", "told"] ["feed"] (defScope s_right) := ⟨rfl, rfl, rfl, by decide +kernel, rfl, by decide +kernel, by decide +kernel⟩
theorem cal_right {fI : Addr} (T : Bs mg) (Z : Rx K mg C) (NE : NeF K C) (D : Df K mg "_law_right" s_right ["feed"]) (C_pick : Cal P w K mg base 2 "_law_pick" (spChoose K)) (C_states : Cal P w K mg base 2 "_law_states" spLStates) (C_words : Cal P w K mg base 1 "_law_words" spWords)
    (C_is_told : Cal P w K mg base 6 "_law_is_told" (spTold C)) (C_both_right : Cal P w K mg base 10 "_law_both_right" (spBoth C tabs)) (MK : L2.Mk K C fI) (F_init : FnR P w K mg base CX0 4 fI (spInit C)) (P_states : PrP P w K mg base C "states" 1 (spSt C))
    (M_eq : Mth P w K mg base CX0 C "__eq__" 2 (spEq C)) : Cal P w K mg base 11 "_law_right" (spRight tabs) := by
  refine D.cal sc_right (fun vs H Q E h => ?_) (fun f cdv A outer s H vs Q E hr h => ?_)
  · obtain ⟨a, rfl, _⟩ := h
    rfl
  · obtain ⟨a, rfl, pot, ht, k⟩ := h
    refine ⟨_, pss_cons (ps_set (i := 1) sc_right.nd rfl (.inl rfl) (pc C_pick hr (pa_cons (pv 0) (pa_cons (pe_lstN (pa_cons pe_str (pa_cons pe_str (pa_cons pe_str (pa_cons pe_str pa_nil))))) pa_nil))))
      (pss_cons (ps_par (i := 2) (j := 3) rfl sc_right.nd rfl rfl (by decide) rfl rfl (pa_cons (pc C_states hr (pa_cons (pv 0) (pa_cons (pv 1) (pa_cons pe_int pa_nil)))) (pa_cons (pc C_states hr (pa_cons (pv 0) (pa_cons (pv 1) (pa_cons pe_int pa_nil)))) pa_nil)) (by rfl))
      (pss_cons (ps_par (i := 4) (j := 5) rfl sc_right.nd rfl rfl (by decide) rfl rfl (pa_cons (StX.pe_makeR MK F_init (hr.rm.mono (by decide)) rfl Z.gC pass0 (pa_cons (pv 1) (pa_cons (pv 2) pa_nil))) (pa_cons (StX.pe_makeR MK F_init (hr.rm.mono (by decide)) rfl Z.gC pass0 (pa_cons (pv 1) (pa_cons (pv 3) pa_nil))) pa_nil)) (by rfl))
      (pss_cons (ps_set (i := 6) sc_right.nd rfl (.inl rfl) (pe_op op_cat (pc C_words hr (pa_cons (pv 1) (pa_cons (pe_ix ix_list (pe_lstN (pa_cons pe_int (pa_cons pe_int (pa_cons pe_int pa_nil)))) (pe_op op_sub (pb call_len3 T.z_len (pa_cons (pv 1) pa_nil)) pe_int) (fun _ _ => rfl)) pa_nil))) (pe_lstN (pa_cons (pe_op op_mulS (pc C_pick hr (pa_cons (pv 0) (pa_cons (pt (call_list3N rfl) T.z_list (pa_cons (pv 1) pa_nil)) pa_nil))) pe_int) pa_nil))))
      (pss_cons (ps_if (PW.pt (pw_or (pt_not (pt_val (pc C_is_told hr (pa_cons (pv 4) (pa_cons (pv 1) (pa_cons (pv 2) (pa_cons (pv 6) pa_nil))))))) (pw_or1 (pt_not (pt_val (pc C_both_right hr (pa_cons (pv 4) (pa_cons (pv 5) (pa_cons (pv 1) (pa_cons (pv 2) (pa_cons (pv 3) pa_nil)))))))))))
        (pss_one (ps_ret pe_bl))
        pss_nil)
      (pss_cons (ps_set (i := 7) sc_right.nd rfl (.inl rfl) (pe_prP P_states Z.sc hr.rm (pv 4)))
      (pss_cons (ps_expr (pe_dclear (pe_ix ix_tup (pe_ix ix_tup (pv 7) pe_int (fun _ _ => rfl)) pe_int (fun _ _ => rfl))))
      (pss_one (ps_ret (pe_and (pe_cmpR (op_eqSts hr.rm.units) (pe_prP P_states Z.sc hr.rm (pv 4)) (pv 2) (nomark _)) (pe_and (pe_cmpR (op_eqM M_eq hr) (pv 4) (StX.pe_makeR MK F_init (hr.rm.mono (by decide)) rfl Z.gC pass0 (pa_cons (pv 1) (pa_cons (pv 2) pa_nil))) (nomark _)) (pe_and (pe_cmpR op_eq (pe_cmpR (op_eqM M_eq hr) (pv 4) (pv 5) (nomark _)) (pe_cmpR (op_eqSts hr.rm.units) (pv 2) (pv 3) (nomark _)) (nomark _)) (pe_one (pe_cmpR (op_neO M_eq NE hr) (pv 4) (pv 2) (nomark _)))))))))))))), ?_⟩
    have na : ∀ {p : Addr} {H' : Hp}, Pot H' a → H' p = none → p ≠ a := fun q hp => q.ne hp
    refine ⟨_, rfl, by rw [sizeLine_eq]; show 4 ≤ _; omega, fun p1 hp1 _ => ?_⟩
    have f1 : Stp a H (upd H p1 (.lst [.str "a", .str "ab", .str "ab", .str "bxy"])) := same_pot (same_new hp1) pot
    have k1 : Of3 K (hid a (upd H p1 (.lst [.str "a", .str "ab", .str "ab", .str "bxy"]))) (.ref p1) [.str "a", .str "ab", .str "ab", .str "bxy"] := Of3.newL (pot.ne hp1)
    refine ⟨a, .ref p1, _, rfl, f1.pot, k1, by simp, by decide, fun v H2 hv e2 => ?_⟩
    obtain ⟨sg, rfl, sgo, l3⟩ := sg_of hv
    have f2 := f1.trans e2
    have l1 := sgo.len.1
    refine ⟨_, rfl, _, rfl, a, sg, 4, rfl, f2.pot, sgo, by decide, by decide, fun t1 s1 H3 m1 ok1 st1 e3 => ?_⟩
    refine ⟨_, rfl, _, rfl, a, sg, 3, rfl, e3.pot, sgo, by decide, by decide, fun t2 s2 H4 m2 ok2 st2 e4 => ⟨_, _, rfl, ?_⟩⟩
    have f4 := (f2.trans e3).trans e4
    have st1' := stsT_td (td_stp e3.pot e4) st1
    refine ⟨_, rfl, _, rfl, fun x dx hx hdx hne => ⟨x, dx, t1, sg, s1, H4, rfl, upd_same, hne, hx, hdx, mk_same hx hdx, st1', sgo, ok1, fun H5 e5 ru1 => ⟨rfl, ?_⟩⟩⟩
    refine ⟨_, rfl, _, rfl, fun y dy hy hdy hney => ⟨y, dy, t2, sg, s2, H5, rfl, upd_same, hney, hy, hdy, mk_same hy hdy, st2.le e5, sgo, ok2, fun H6 e6 ru2 => ⟨rfl, _, _, rfl, ?_⟩⟩⟩
    have f6 := f4.trans (same_pot (e5.trans e6) f4.pot)
    have ru1' := ru1.le e6
    have st1'' := st1'.le (e5.trans e6)
    have st2'' := st2.le (e5.trans e6)
    obtain ⟨m, hm8, hat⟩ := pick_most sg.length l1 l3
    have ls : (SX.S sg).length ≤ 100000 := by rw [S_len]; omega
    refine ⟨_, rfl, by rw [sizeLine_eq]; show 3 ≤ _; omega, fun p7 hp7 _ => ?_⟩
    have e7 : Same H6 (upd H6 p7 (.lst [.int 8, .int 5, .int 4])) := same_new hp7
    refine ⟨_, rfl, _, _, rfl, Of3.str ls, _, _, rfl, rfl, p7, _, _, .int (m : Nat), rfl, rfl, SqL.of upd_same, by rw [List.length_map]; exact hat, sg, m, rfl, l1, l3, hm8, fun wl ws H8 e8 nwl0 kwl _ wlen wch => ?_⟩
    have lcs : (SX.S sg).cps.toList = sg := rfl
    have f8 := f6.trans (same_pot (e7.trans e8) f6.pot)
    have ru18 := ru1'.le (e7.trans e8)
    have ru28 := ru2.le (e7.trans e8)
    have st18 := st1''.le (e7.trans e8)
    have st28 := st2''.le (e7.trans e8)
    have ls2 : ((cps (SX.S sg)).map S1).length ≤ sizeLine := by rw [List.length_map, cps_S, sizeLine_eq]; omega
    refine ⟨_, rfl, _, rfl, _, _, rfl, Of3.str ls, fun p9 hp9 _ => ?_⟩
    have s9 : Same H8 (upd H8 p9 (.lst ((cps (SX.S sg)).map S1))) := same_new hp9
    have f9 := same_pot s9 f8.pot
    refine ⟨a, .ref p9, _, rfl, f9.pot, Of3.newL (f8.pot.ne hp9), by intro z; have := congrArg List.length z; rw [List.length_map, lcs] at this; simp only [List.length_nil] at this; omega, by rw [List.length_map, lcs]; omega, fun v10 H10 hv10 e10 => ?_⟩
    obtain ⟨c, hc, rfl⟩ := List.mem_map.mp hv10
    have hc : c ∈ sg := hc
    refine ⟨_, 300, rfl, rfl, by show 1 ≤ 100; decide, by decide, by decide, by rw [sizeLine_eq]; show 1 ≤ _; omega, fun p11 hp11 _ => ?_⟩
    have nwl : wl ≠ a := (same_pot e7 f6.pot).pot.ne nwl0
    have f10 := f9.trans e10
    have kwl10 := e10.get (s9 _ _ kwl) nwl
    refine ⟨wl, p11, _, _, rfl, rfl, same_new hp11 _ _ kwl10, upd_same, by rw [List.length_map, sizeLine_eq]; show _ + 1 ≤ _; omega, fun lw hlw => ?_⟩
    have s12 : Same H10 (upd (upd H10 p11 (.lst [.str (Txt.mul ⟨#[c]⟩ 300)])) lw (.lst ((ws.map fun u => V.str (SX.S u)) ++ [.str (Txt.mul ⟨#[c]⟩ 300)]))) := (same_new hp11).trans (same_new hlw)
    have klw : (upd (upd H10 p11 (.lst [.str (Txt.mul ⟨#[c]⟩ 300)])) lw (.lst ((ws.map fun u => V.str (SX.S u)) ++ [.str (Txt.mul ⟨#[c]⟩ 300)]))) lw = some (.lst (((ws.map fun u => SX.S u) ++ [Txt.mul ⟨#[c]⟩ 300]).map V.str)) := by rw [upd_same, List.map_append, List.map_map]; rfl
    generalize upd (upd H10 p11 (.lst [.str (Txt.mul ⟨#[c]⟩ 300)])) lw (.lst ((ws.map fun u => V.str (SX.S u)) ++ [.str (Txt.mul ⟨#[c]⟩ 300)])) = H12 at s12 klw
    have f12 := f10.trans (same_pot s12 f10.pot)
    have n812 : KeepN a H8 H12 := (keepN_stp (f9.trans e10)).trans (keepN_same s12)
    have ru1z := ru_stp f8.pot f12 ru18 ok1.pos
    have ru2z := ru_stp f8.pot f12 ru28 ok2.pos
    have st1z := stsT_td (td_stp f8.pot f12) st18
    have st2z := stsT_td (td_stp f8.pot f12) st28
    have f0 := f8.trans f12
    have t12 := tabs_stp ht pot f0
    refine ⟨_, rfl, _, rfl, _, rfl, _, rfl, x, t1, lw, sg, s1, _, rfl, ru1z, st1z, sgo, ok1, klw, words_ok sgo hc hm8 wch, fun H13 e13 => ⟨_, rfl, iteF ?_⟩⟩
    refine ⟨_, rfl, _, rfl, _, rfl, _, rfl, _, rfl, x, y, t1, t2, sg, s1, s2, rfl, ru1z.le e13, ru2z.le e13, st1z.le e13, st2z.le e13, sgo, ok1, ok2, m1, by omega, t12.ext e13, fun H14 e14 t14 => ⟨_, rfl, iteF ?_⟩⟩
    have n14 : KeepN a H H14 := ((keepN_stp f0).trans (keepN_same e13)).trans (keepN_n e14)
    have p14 := pot_n e14 (same_pot e13 f0.pot).pot
    have ru1w := ruAt_n e14 (ru1z.le e13)
    have ru2w := ruAt_n e14 (ru2z.le e13)
    have st1w := stsT_n e14 (st1z.le e13)
    have st2w := stsT_n e14 (st2z.le e13)
    have ru1c := ru1w
    obtain ⟨dxx, _, _, _, slx, _⟩ := ru1c
    refine ⟨_, rfl, x, dxx, _, rfl, slx, x, sg, s1, rfl, ru1w, ok1.most, fun tt H15 e15 sn => ?_⟩
    obtain ⟨a0, as, d, g, kv, k1, k2, k3, k4⟩ := stsN_head sn ok1.pos
    have at0 : atI ((a0 :: as).map V.ref) 0 = some (.ref a0) := atI_nat (show ((a0 :: as).map V.ref)[0]? = some (V.ref a0) from rfl)
    refine ⟨_, rfl, tt, _, 0, .ref a0, rfl, rfl, SqT.of k1, at0, a0, _, 0, .ref d, rfl, rfl, SqT.of k2, rfl, .inr (.inr (.inl ⟨rfl, .inl ⟨kv, k3⟩⟩)), d, kv, rfl, rfl, k3, ?_⟩
    have e16 : Same H14 (upd H15 d (.dK [])) := fun b o h => by
      rw [upd_ne (ne_of_none h k4)]
      exact e15 _ _ h
    generalize upd H15 d (.dK []) = H16 at e16
    have nd := sgo.nodup
    have sb1 : ∀ p ∈ s1, (p.1.map (·.1)).Sublist sg := fun p hp => (ok1.rows p hp).sub
    have sb2 : ∀ p ∈ s2, (p.1.map (·.1)).Sublist sg := fun p hp => (ok2.rows p hp).sub
    refine ⟨_, rfl, x, dxx, _, rfl, slt_mono slx e16, x, sg, s1, rfl, ru1w.le e16, ok1.most, fun t3 H17 e17 sn3 => ⟨_, rfl, t3, t1, s1, s1, sg, rfl, rfl, sn3.sts, (st1w.le e16).le e17, nd, sb1, sb1, ?_⟩⟩
    rw [decide_eq_true (rfl : s1 = s1)]
    refine ⟨true, rfl, iteT ?_⟩
    have e1417 := e16.trans e17
    refine ⟨_, rfl, _, rfl, _, rfl, fun z dz hz hdz hnez => ⟨z, dz, t1, sg, s1, H17, rfl, upd_same, hnez, hz, hdz, mk_same hz hdz, st1w.le e1417, sgo, ok1, fun H18 e18 ruz => ⟨rfl, ?_⟩⟩⟩
    have e1418 := e1417.trans e18
    have rux := ru1w.le e1418
    have ruy := ru2w.le e1418
    have slx18 := slt_mono slx e1418
    have ruz' := ruz
    obtain ⟨dz2, _, _, _, slz, _⟩ := ruz'
    have ruy' := ruy
    obtain ⟨dy2, _, _, _, sly, _⟩ := ruy'
    refine ⟨x, dxx, _, _, rfl, slx18, .inl ⟨z, dz2, _, rfl, slz, rfl⟩, Z.nf, x, .ref z, sg, s1, rfl, rux, sgo, ok1, .inl ⟨z, sg, s1, rfl, ruz, ok1, ?_⟩⟩
    rw [decide_eq_true (rfl : sg = sg), decide_eq_true (rfl : s1 = s1)]
    refine ⟨true, rfl, iteT ?_⟩
    refine ⟨_, rfl, _, rfl, x, dxx, _, _, rfl, slx18, .inl ⟨y, dy2, _, rfl, sly, rfl⟩, Z.nf, x, .ref y, sg, s1, rfl, rux, sgo, ok1, .inl ⟨y, sg, s2, rfl, ruy, ok2, ?_⟩⟩
    refine ⟨_, rfl, _, rfl, t1, t2, s1, s2, sg, rfl, rfl, st1w.le e1418, st2w.le e1418, nd, sb1, sb2, rfl, ?_⟩
    have e3 : decide (V.bl (decide (sg = sg) && decide (s1 = s2)) = V.bl (if false = true then !decide (s1 = s2) else decide (s1 = s2))) = true := by
      rw [decide_eq_true (rfl : sg = sg), Bool.true_and]
      exact decide_eq_true rfl
    rw [e3]
    refine ⟨true, rfl, iteT ?_⟩
    obtain ⟨as1, ht1, hp1'⟩ := st1w.le e1418
    refine ⟨_, rfl, _, rfl, x, dxx, t1, _, .type "tuple", rfl, rfl, slx18, ?_, Z.nt, x, .ref t1, sg, s1, rfl, rux, sgo, ok1, .inr ⟨t1, _, rfl, ht1, false, rfl, ?_⟩⟩
    · exact .base (.tup ht1)
    · exact k _ (n14.trans (keepN_same e1418)) (same_pot e1418 p14).pot (t14.ext e1418)
end
end Fs
namespace Fs
open PySem PySem.Spec PyProof.Rows L2 SlX RZ SrtO ClX
/-! ### class methods -/
structure CmP (P : Program) (w : World) (K : PySem.W.Frag) (mg : Str → Option Value) (base : Heap) (CX : CXT) (C : Addr) (m : Str) (k : Nat) (sp : Sp) : Prop where
  ex : ∃ (p g : Addr) (mc : Value), CRead K C mc ∧ CMet K C mc m p g ∧ FnR P w K mg base CX k g sp
section
variable {X : Cx} {CX : CXT} {j k : Nat} {C : Addr} {sp : Sp} {E : XK} {o e : Expr} {es : List Expr} {m : Str} {pos apos : Pos} {ta : TE} {t : TA} {pl : Sem Bool}
theorem pcm (c : CmP X.prog X.w X.K X.mg X.base CX C m k sp) (hr : Room j X.A) (hx : Passes CX X E) (he : PE X o ta) (ha : PA X (e :: es) t) (hk : k ≤ j := by decide)
    (hst : starEach (e :: es) X.env = (false, eval e X.env) :: starEach es X.env := by rfl) (hpl : (backTo pos (starEach es X.env)).any (·.1) = false := by rfl)
    (ht : eval (.Call (.Attribute o m apos) (e :: es) [] pos) X.env = (do
      let ov ← eval o X.env
      standAt apos.atName
      let (f, first) ← holding [ov] (getMethod ov m pl)
      callWith pos f first (backTo pos (starEach (e :: es) X.env)) (backToKw pos (keywordEach [] X.env))) := by rfl) :
    PE X (.Call (.Attribute o m apos) (e :: es) [] pos) (tCMeth C sp E ta t) := by
  obtain ⟨p, g, mc, r, cm, F⟩ := c.ex
  exact pe_cmeth he r cm F (hr.mono hk) hx ha hst hpl ht
/-- i % j of small numbers, just so -/
def rModE : R2 := fun x y H Q => ∃ i j : Nat, x = .int (i : Nat) ∧ y = .int (j : Nat) ∧ 0 < j ∧ Q (.int ((i % j : Nat) : Int)) H
theorem op_modE : OpR X (binaryOp .Mod) rModE := OpR.imp op_modN fun x y H Q ⟨i, j, e1, e2, hj, q⟩ => ⟨_, _, e1, e2, by omega, by
  show Q (.int (Int.fmod _ _)) H
  rw [Int.fmod_eq_emod_of_nonneg _ (by omega)]
  exact q⟩
end
/-! ### texts put together -/
theorem joinL_one : ∀ ls : List (List Nat), TL.joinL [] ls = ls.flatten
  | [] => rfl
  | [l] => by simp [TL.joinL]
  | l :: m :: r => by
    show l ++ ([] ++ TL.joinL [] (m :: r)) = _
    rw [joinL_one (m :: r)]
    simp
theorem join_ones (cs : List Nat) : Txt.join "" (cs.map fun c => (⟨#[c]⟩ : Str)) = SX.S cs := by
  refine cps_inj ?_
  rw [TL.join_eq]
  refine ((TL.tl_join "" _).trans (joinL_one _)).trans ?_
  rw [List.map_map]
  show (cs.map fun c => [c]).flatten = cs
  induction cs with
  | nil => rfl
  | cons c cs ih => rw [List.map_cons, List.flatten_cons, ih]; rfl
/-! ### the heads, in plain words -/
def hdsB (ws : List Wd) : List Wd := ws.foldl (fun acc u => acc ++ prefs u) [[]]
theorem hdsB_snoc (ws : List Wd) (u : Wd) : hdsB (ws ++ [u]) = hdsB ws ++ prefs u := by
  unfold hdsB
  rw [List.foldl_append]
  rfl
theorem hdsB_mem : ∀ {ws : List Wd} {acc : List Wd} {h : Wd}, h ∈ ws.foldl (fun acc u => acc ++ prefs u) acc ↔ h ∈ acc ∨ ∃ w ∈ ws, h ∈ prefs w
  | [], acc, h => by simp
  | w :: ws, acc, h => by
    rw [List.foldl_cons, hdsB_mem, List.mem_append]
    constructor
    · rintro ((q | q) | ⟨u, hu, q⟩)
      · exact .inl q
      · exact .inr ⟨w, List.mem_cons_self, q⟩
      · exact .inr ⟨u, List.mem_cons_of_mem _ hu, q⟩
    · rintro (q | ⟨u, hu, q⟩)
      · exact .inl (.inl q)
      · rcases List.mem_cons.mp hu with e | hu
        · rw [e] at q
          exact .inl (.inr q)
        · exact .inr ⟨u, hu, q⟩
theorem hdsB_of {ws : List Wd} {h : Wd} : h ∈ hdsB ws ↔ h ∈ hdsOf ws := by
  unfold hdsB
  rw [hdsB_mem, hdsOf_mem, List.mem_singleton]
theorem hdsB_len {n : Nat} : ∀ {ws acc : List Wd}, (∀ u ∈ ws, u.length ≤ n) → (ws.foldl (fun acc u => acc ++ prefs u) acc).length ≤ acc.length + n * ws.length
  | [], acc, _ => Nat.le_add_right _ _
  | w :: ws, acc, h => by
    have h1 := hdsB_len (n := n) (ws := ws) (acc := acc ++ prefs w) fun u hu => h u (List.mem_cons_of_mem _ hu)
    have h2 := h w List.mem_cons_self
    rw [List.length_append, prefs_len] at h1
    rw [List.foldl_cons, List.length_cons, Nat.mul_add, Nat.mul_one]
    omega
theorem heads_sorted {ws ds : List Wd} (nd : ds.Nodup) (m : ∀ h, h ∈ ds ↔ h ∈ hdsB ws) : sortW ds = rowsOf ws :=
  sortW_congr ((List.perm_ext_iff_of_nodup nd (hdsOf_nodup ws)).mpr fun h => (m h).trans hdsB_of)
end Fs
namespace Fs
open PySem PySem.Spec PyProof.Rows L2 SlX RZ SrtO ClX
open LamX (ExtN Tabs TabS TabB LamS lamEnv lamCx GivesTo tLam CodeO)
theorem sg_of3 {v : V} (h : v ∈ [V.str "a", .str "ab", .str "bxy"]) : ∃ sg, v = .str (SX.S sg) ∧ SgOk sg ∧ sg.length ≤ 3 := by
  refine sg_of ?_
  rcases List.mem_cons.mp h with rfl | h
  · exact .head _
  rcases List.mem_cons.mp h with rfl | h
  · exact .tail _ (.head _)
  · exact .tail _ (.tail _ (.tail _ h))
theorem stp_same {a : Addr} {H H1 H2 : Hp} (x : Stp a H H1) (e : Same H1 H2) : Stp a H H2 := x.trans (same_pot e x.pot)
theorem pairs_of {H : Hp} : ∀ {as : List Addr} {hs : List Wd}, Paired (fun a (h : Wd) => H a = some (.tup (itV (lenT h)))) as hs → ∃ ks : List (Addr × (Int × List Nat)), ks.map (fun q => V.ref q.1) = as.map V.ref ∧ ks.map (·.2) = hs.map lenT ∧ ∀ q ∈ ks, H q.1 = some (.tup (itV q.2))
  | _, _, .nil => ⟨[], rfl, rfl, fun _ h => nomatch h⟩
  | _, _, .cons (a := a) (b := h) r t => by
    obtain ⟨ks, e1, e2, e3⟩ := pairs_of t
    refine ⟨(a, lenT h) :: ks, by rw [List.map_cons, List.map_cons, e1], by rw [List.map_cons, List.map_cons, e2], fun q hq => ?_⟩
    rcases List.mem_cons.mp hq with e | hq
    · rw [e]; exact r
    · exact e3 q hq
/-- the members of the set, sorted -/
theorem set_sorted {ks M : List (Addr × (Int × List Nat))} {ws hs : List Wd} (e : ks.map (·.2) = hs.map lenT) (hm : ∀ h, h ∈ hs ↔ h ∈ hdsB ws) (sub : ∀ q ∈ M, q ∈ ks) (all : ∀ q ∈ ks, q.2 ∈ M.map (·.2)) (nd : (M.map (·.2)).Nodup) : srtT (M.map (·.2)) = (rowsOf ws).map lenT := by
  have key : ∀ q ∈ M, q.2 = lenT q.2.2 := fun q hq => by
    have : q.2 ∈ ks.map (·.2) := List.mem_map.mpr ⟨q, sub q hq, rfl⟩
    rw [e] at this
    obtain ⟨h, _, eh⟩ := List.mem_map.mp this
    rw [← eh]
    rfl
  have e2 : M.map (·.2) = (M.map (·.2.2)).map lenT := by
    rw [List.map_map]
    exact List.map_congr_left fun q hq => key q hq
  rw [e2] at nd ⊢
  rw [sortW_lenT]
  rw [heads_sorted (ws := ws) (nodup_of_map nd) fun h => ?_]
  rw [← hm]
  constructor
  · intro q
    obtain ⟨m, hq, eq⟩ := List.mem_map.mp q
    have : m.2 ∈ ks.map (·.2) := List.mem_map.mpr ⟨m, sub m hq, rfl⟩
    rw [e] at this
    obtain ⟨h2, hh2, eh⟩ := List.mem_map.mp this
    rw [← eh] at eq
    rw [← eq]
    exact hh2
  · intro q
    have : lenT h ∈ ks.map (·.2) := by rw [e]; exact List.mem_map.mpr ⟨h, q, rfl⟩
    obtain ⟨m, hq, eq⟩ := List.mem_map.mp this
    have h3 := all m hq
    rw [eq] at h3
    obtain ⟨m2, hm2, e3⟩ := List.mem_map.mp h3
    exact List.mem_map.mpr ⟨m2, hm2, by rw [show m2.2 = lenT h from e3]; rfl⟩
theorem in_words (h : Wd) (rows : List Wd) : inV (.str (SX.S h)) (rows.map fun u => V.str (SX.S u)) = decide (h ∈ rows) := by
  have := inV_str (SX.S h) (rows.map SX.S)
  rw [List.map_map] at this
  refine this.trans (decide_eq_decide.mpr ?_)
  rw [List.mem_map]
  exact ⟨fun ⟨u, hu, e⟩ => S_inj.mp e ▸ hu, fun q => ⟨h, q, rfl⟩⟩
theorem flat_words (rows : List Wd) : (rows.map fun u => V.str (SX.S u)).all flatV = true := by rw [List.all_map]; exact List.all_eq_true.mpr fun _ _ => rfl
theorem eq_words (x y : Wd) : eqV (.str (SX.S x)) (.str (SX.S y)) = decide (x = y) := by
  show (SX.S x == SX.S y) = _
  by_cases e : x = y
  · subst e
    simp
  · rw [decide_eq_false e]
    exact beq_eq_false_iff_ne.mpr fun q => e (S_inj.mp q)
theorem optS_okW {sg : List Nat} {ws : List Wd} : ∀ st, optS (wordSts sg ws) = some st → RowsOk sg st ∧ st.length ≤ 64 := fun st e => by
  by_cases c : (wordSts sg ws).length ≤ 6
  · rw [optS_yes c] at e
    cases e
    have l : (wordSts sg ws).length = (rowsOf ws).length := by unfold wordSts; rw [List.length_map]
    exact ⟨(wordSts_ok (by omega)).rowsOk, by omega⟩
  · rw [optS_no c] at e
    cases e
theorem via_asg {te : TE} {g : TG} {u : TS} {D : Ends} {σ : L2.St} {H : Hp} (G : V → Hp → Prop) (h : ∀ Q1 : VK, (∀ v H1, G v H1 → Q1 v H1) → te σ H Q1) (k : ∀ v H1, G v H1 → g v σ H1 (u D)) : tSeq (tAsg te g) u D σ H := h _ k
def cMv (sg cd : List Nat) (m i : Nat) : Row := sg.map fun c => (c, if c ∈ cd then (i + 1) % m else i)
theorem cMv_snoc {sg cd : List Nat} {m i j c : Nat} (hc : sg[j]? = some c) : cMv (sg.take (j + 1)) cd m i = cMv (sg.take j) cd m i ++ [(c, if c ∈ cd then (i + 1) % m else i)] := by
  rw [take_snoc hc]
  unfold cMv
  rw [List.map_append]
  rfl
theorem cMv_fst (sg cd : List Nat) (m i : Nat) : (cMv sg cd m i).map (·.1) = sg := by
  unfold cMv
  rw [List.map_map]
  exact List.map_id' sg
theorem cMv_mod {cd : List Nat} {m i c : Nat} (hi : i < m) : (if c ∈ cd then i + 1 else i) % m = if c ∈ cd then (i + 1) % m else i := by
  by_cases h : c ∈ cd
  · rw [if_pos h, if_pos h]
  · rw [if_neg h, if_neg h, Nat.mod_eq_of_lt hi]
theorem wdOk_of {sg : List Nat} {ws : List Wd} (sgo : SgOk sg) (few : ws.length ≤ 8) (h : ∀ u ∈ ws, u.length ≤ 3 ∧ ∀ c ∈ u, c ∈ sg) : WdOk sg ws := by
  have low : ∀ d ∈ sg, d < 128 := fun d hd => (lo_signs (x := SX.S sg) sgo.ok).cod d hd
  refine ⟨few, fun u hu => by have := (h u hu).1; omega, fun u hu => ?_, fun u hu => List.all_eq_true.mpr fun d hd => decide_eq_true ((h u hu).2 d hd)⟩
  obtain ⟨h1, h2⟩ := h u hu
  exact Lo.tok (n := 8) ⟨by rw [S_len]; omega, fun d hd => low d (h2 d hd)⟩ (by decide)
section
variable {P : Program} {w : World} {K : PySem.W.Frag} {mg : Str → Option Value} {base : Heap} {C TM c Pt : Addr} {tabs : List (Addr × Str)}
abbrev s_made_right : Stmt := top 42
theorem sc_made_right : FnScope ["feed", "signs", "words", "heads", "word", "rows", "head", "moves", "due", "counted", "by", "rest", "at", "turn", "size", "pair", "sign"] ["feed"] (defScope s_made_right) := ⟨rfl, rfl, rfl, by decide +kernel, rfl, by decide +kernel, by decide +kernel⟩
theorem cal_made_right (T : Bs mg) (Z : Rx K mg C) (Y : TMy K mg TM) (D : DfC K mg "_law_made_right" s_made_right ["feed"] c) (D_made : Df K mg "_law_made" s_made ["call"]) (C_take : Cal P w K mg base 1 "_law_take" spTake) (C_pick : Cal P w K mg base 2 "_law_pick" (spChoose K)) (C_words : Cal P w K mg base 1 "_law_words" spWords)
    (P_states : PrP P w K mg base C "states" 1 (spSt C)) (M_of_words : CmP P w K mg base (L2.CX P w) C "of_words" 6 (spOfW C TM)) (M_counting : CmP P w K mg base CX0 C "counting" 6 (spCount C))
    (TB : TabB base mg c Pt) (hT : (Pt, lamN "_law_made_right") ∈ tabs) (hu : ∀ p ∈ tabs, p.1 = Pt → p.2 = lamN "_law_made_right") : Cal P w K mg base 10 "_law_made_right" (spRight tabs) := by
  refine D.cal sc_made_right (fun vs H Q E h => ?_) (fun f A outer s H vs Q E hr h => ?_)
  · obtain ⟨a, rfl, _⟩ := h
    rfl
  · obtain ⟨a, rfl, pot, ht, k⟩ := h
    refine ⟨_, pss_cons (ps_set (i := 1) sc_made_right.nd rfl (.inr rfl) (pc C_pick hr (pa_cons (pv 0) (pa_cons (pe_lstN (pa_cons pe_str (pa_cons pe_str (pa_cons pe_str pa_nil)))) pa_nil))))
      (pss_cons (ps_set (i := 2) sc_made_right.nd rfl (.inr rfl) (pt call_tuple_of T.z_tuple (pa_cons (pe_lc (own := [("turn", 13)]) (te := (tCallS (spChoose K) (fun _ => E0) (tCons (tVar 0) (tCons (tCallS spWords (fun _ => E0) (tCons (tVar 1) (tCons (tC (.int 3)) tNil))) tNil)))) rfl sc_made_right.nd (pi_range1 (by rfl) T.z_range (pa_cons (pc C_take hr (pa_cons (pv 0) (pa_cons pe_int pa_nil))) pa_nil)) (blkOk_by (N := ["feed", "signs", "words", "heads", "word", "rows", "head", "moves", "due", "counted", "by", "rest", "at", "turn", "size", "pair", "sign"]) (sc := defScope s_made_right) (by decide +kernel)) (fun _ _ _ _ _ => (pg_name (i := 13) sc_made_right.nd rfl (Or.inl rfl))) (fun _ _ _ _ _ => pts_nil) (fun _ _ _ _ _ => (pc C_pick hr (pa_cons (pv 0) (pa_cons (pc C_words hr (pa_cons (pv 1) (pa_cons pe_int pa_nil))) pa_nil))))) pa_nil)))
      (pss_cons (ps_set (i := 3) sc_made_right.nd rfl (.inr rfl) (pe_lstN (pa_cons pe_str pa_nil)))
      (pss_cons (ps_for PassesOwn.never rfl (pi_tup (pv 2)) (pg_name (i := 4) sc_made_right.nd rfl (Or.inr rfl))
        (pss_one (ps_set (i := 3) sc_made_right.nd rfl (.inr rfl) (pe_op op_cat (pv 3) (pe_lc (own := [("size", 14)]) (te := (tSl rSlS (tVar 4) tNoPart (tPart (tOp (rI0 fun i j => .int (i + j)) (tVar 14) (tC (.int 1)))))) rfl sc_made_right.nd (pi_range1 (by rfl) T.z_range (pa_cons (pb call_len3 T.z_len (pa_cons (pv 4) pa_nil)) pa_nil)) (blkOk_by (N := ["feed", "signs", "words", "heads", "word", "rows", "head", "moves", "due", "counted", "by", "rest", "at", "turn", "size", "pair", "sign"]) (sc := defScope s_made_right) (by decide +kernel)) (fun _ _ _ _ _ => (pg_name (i := 14) sc_made_right.nd rfl (Or.inl rfl))) (fun _ _ _ _ _ => pts_nil) (fun _ _ _ _ _ => (pe_slice sl_str (pv 4) po_none (po_some (pe_op op_add (pv 14) pe_int)))))))))
      (pss_cons (ps_set (i := 3) sc_made_right.nd rfl (.inr rfl) (pe_lc (own := [("pair", 15)]) (te := (tOp (rIxT K) (tVar 15) (tC (.int 1)))) rfl sc_made_right.nd (pi_list (pb (cr_sortedS rfl) T.z_sorted (pa_cons (pt (cr_setIT rfl hr.rm.units) T.z_set (pa_cons (pe_lc (own := [("head", 6)]) (te := (tTup (tCons (tCB (rLen3 K) (tCons (tVar 6) tNil)) (tCons (tVar 6) tNil)))) rfl sc_made_right.nd (pi_list (pv 3)) (blkOk_by (N := ["feed", "signs", "words", "heads", "word", "rows", "head", "moves", "due", "counted", "by", "rest", "at", "turn", "size", "pair", "sign"]) (sc := defScope s_made_right) (by decide +kernel)) (fun _ _ _ _ _ => (pg_name (i := 6) sc_made_right.nd rfl (Or.inl rfl))) (fun _ _ _ _ _ => pts_nil) (fun _ _ _ _ _ => (pe_tup (pa_cons (pb call_len3 T.z_len (pa_cons (pv 6) pa_nil)) (pa_cons (pv 6) pa_nil))))) pa_nil)) pa_nil))) (blkOk_by (N := ["feed", "signs", "words", "heads", "word", "rows", "head", "moves", "due", "counted", "by", "rest", "at", "turn", "size", "pair", "sign"]) (sc := defScope s_made_right) (by decide +kernel)) (fun _ _ _ _ _ => (pg_name (i := 15) sc_made_right.nd rfl (Or.inl rfl))) (fun _ _ _ _ _ => pts_nil) (fun _ _ _ _ _ => (pe_ix ix_tup (pv 15) pe_int (fun _ _ => rfl)))))
      (pss_cons (ps_set (i := 5) sc_made_right.nd rfl (.inl rfl) (pe_lstN pa_nil))
      (pss_cons (ps_for PassesOwn.never rfl (pi_list (pv 3)) (pg_name (i := 6) sc_made_right.nd rfl (Or.inr rfl))
        (pss_cons (ps_setLc (i := 7) (own := [("sign", 16)]) (te := (tTup (tCons (tVar 16) (tCons (tBM K "list" (rIndex K) (tVar 3) (tCons (tOp rAddS (tVar 6) (tVar 16)) tNil)) tNil)))) (tt := (tTest (tOp (rIn K false) (tOp rAddS (tVar 6) (tVar 16)) (tVar 3)))) rfl sc_made_right.nd rfl rfl (sw_true rfl rfl rfl (by decide +kernel)) (pi_str (pv 1)) (blkOk_by (N := ["feed", "signs", "words", "heads", "word", "rows", "head", "moves", "due", "counted", "by", "rest", "at", "turn", "size", "pair", "sign"]) (sc := defScope s_made_right) (by decide +kernel)) (fun _ _ _ _ _ => (pg_name (i := 16) sc_made_right.nd rfl (Or.inl rfl))) (fun _ _ _ _ _ => (pts_one (pt_cmpR op_in_seq (pe_op op_add_str (pv 6) (pv 16)) (pv 3) (by rfl)))) (fun _ _ _ _ _ => (pe_tup (pa_cons (pv 16) (pa_cons (pe_bm PySem.F.plainAttrs_list PySem.F.slot_list_index PySem.F.type_list_index (mt_index) (pv 3) (pa_cons (pe_op op_add_str (pv 6) (pv 16)) pa_nil)) pa_nil)))))
        (pss_one (ps_expr (pe_bm PySem.F.plainAttrs_list PySem.F.slot_list_append PySem.F.type_list_append mt_append (pv 5) (pa_cons (pe_tup (pa_cons (pt (call_dictP rfl) T.z_dict (pa_cons (pv 7) pa_nil)) (pa_cons (pe_cmpR op_in_seq (pv 6) (pv 2) (by rfl)) pa_nil))) pa_nil))))))
      (pss_cons (ps_set (i := 8) sc_made_right.nd rfl (.inl rfl) (pe_ifExp (pt_cmpR op_gt (pb call_len3 T.z_len (pa_cons (pv 3) pa_nil)) pe_int (nomark _)) pe_str (pt call_tuple_of T.z_tuple (pa_cons (pv 5) pa_nil))))
      (pss_cons (ps_if (pt_cmpR op_ne (pb (call_reprE hr) T.z_repr (pa_cons (pe_made (k := 6) D_made T Y Z.sc P_states TB qual_cx hT hu rfl (hr.rm.mono (by decide)) (lamS_cx (by decide +kernel)) (fun A outer s H E f c' hr2 => pcm M_of_words hr2 (passes_call (takes_of rfl rfl rfl rfl) (fun _ _ _ _ h => h)) (pe_glob (v := .ref C) (u := .ref C) rfl Z.gC rfl) (pa_cons (pv 1) (pa_cons (pv 2) pa_nil)))) pa_nil)) (pb (call_reprE hr) T.z_repr (pa_cons (pv 8) pa_nil)) (nomark _))
        (pss_one (ps_ret pe_bl))
        pss_nil)
      (pss_cons (ps_set (i := 9) sc_made_right.nd rfl (.inr rfl) (pe_join pe_str (pe_lc (own := [("sign", 16)]) (te := (tVar 16)) (tt := (tTest (tOp rEq (tCallS spTake (fun _ => E0) (tCons (tVar 0) (tCons (tC (.int 2)) tNil))) (tC (.int 0))))) rfl sc_made_right.nd (pi_str (pv 1)) (blkOk_by (N := ["feed", "signs", "words", "heads", "word", "rows", "head", "moves", "due", "counted", "by", "rest", "at", "turn", "size", "pair", "sign"]) (sc := defScope s_made_right) (by decide +kernel)) (fun _ _ _ _ _ => (pg_name (i := 16) sc_made_right.nd rfl (Or.inl rfl))) (fun _ _ _ _ _ => (pts_one (pt_cmpR op_eq (pc C_take hr (pa_cons (pv 0) (pa_cons pe_int pa_nil))) pe_int (nomark _)))) (fun _ _ _ _ _ => (pv 16)))))
      (pss_cons (ps_set (i := 10) sc_made_right.nd rfl (.inr rfl) (pe_op op_add pe_int (pc C_take hr (pa_cons (pv 0) (pa_cons pe_int pa_nil)))))
      (pss_cons (ps_par (i := 11) (j := 5) rfl sc_made_right.nd rfl rfl (by decide) rfl rfl (pa_cons (pc C_take hr (pa_cons (pv 0) (pa_cons (pv 10) pa_nil))) (pa_cons (pe_lstN pa_nil) pa_nil)) (by rfl))
      (pss_cons (ps_for PassesOwn.never rfl (pi_range1 (by rfl) T.z_range (pa_cons (pv 10) pa_nil)) (pg_name (i := 12) sc_made_right.nd rfl (Or.inr rfl))
        (pss_cons (ps_setLc (i := 7) (own := [("sign", 16)]) (te := (tTup (tCons (tVar 16) (tCons (tOp rModE (tCB rIntI (tCons (tOp (rI0 fun i j => .int (i + j)) (tVar 12) (tCB rIntB (tCons (tOp qInS (tVar 16) (tVar 9)) tNil))) tNil)) (tVar 10)) tNil)))) rfl sc_made_right.nd rfl rfl (sw_true rfl rfl rfl (by decide +kernel)) (pi_str (pv 1)) (blkOk_by (N := ["feed", "signs", "words", "heads", "word", "rows", "head", "moves", "due", "counted", "by", "rest", "at", "turn", "size", "pair", "sign"]) (sc := defScope s_made_right) (by decide +kernel)) (fun _ _ _ _ _ => (pg_name (i := 16) sc_made_right.nd rfl (Or.inl rfl))) (fun _ _ _ _ _ => pts_nil) (fun _ _ _ _ _ => (pe_tup (pa_cons (pv 16) (pa_cons (pe_op op_modE (pt call_intI T.z_int (pa_cons (pe_op op_add (pv 12) (pt call_intB T.z_int (pa_cons (pe_cmpR op_in_sign (pv 16) (pv 9) (by rfl)) pa_nil))) pa_nil)) (pv 10)) pa_nil)))))
        (pss_one (ps_expr (pe_bm PySem.F.plainAttrs_list PySem.F.slot_list_append PySem.F.type_list_append mt_append (pv 5) (pa_cons (pe_tup (pa_cons (pt (call_dictP rfl) T.z_dict (pa_cons (pv 7) pa_nil)) (pa_cons (pe_cmpR op_eq (pv 12) (pv 11) (nomark _)) pa_nil))) pa_nil))))))
      (pss_one (ps_ret (pe_cmpR (op_eqSts hr.rm.units) (pe_prP P_states Z.sc hr.rm (pcm M_counting hr.rm pass0 (pe_glob (v := .ref C) (u := .ref C) rfl Z.gC rfl) (pa_cons (pv 1) (pa_cons (pv 9) (pa_cons (pv 10) (pa_cons (pv 11) pa_nil)))))) (pt call_tuple_of T.z_tuple (pa_cons (pv 5) pa_nil)) (nomark _)))))))))))))))), ?_⟩
    --BODY
    refine ⟨_, rfl, by rw [sizeLine_eq]; show 3 ≤ _; omega, fun p1 hp1 _ => ?_⟩
    have f1 : Stp a H (upd H p1 (.lst [.str "a", .str "ab", .str "bxy"])) := same_pot (same_new hp1) pot
    have k1 : Of3 K (hid a (upd H p1 (.lst [.str "a", .str "ab", .str "bxy"]))) (.ref p1) [.str "a", .str "ab", .str "bxy"] := Of3.newL (pot.ne hp1)
    refine ⟨a, .ref p1, _, rfl, f1.pot, k1, by simp, by decide, fun v H2 hv e2 => ?_⟩
    obtain ⟨sg, rfl, sgo, l3⟩ := sg_of3 hv
    have f2 := f1.trans e2
    have l1 := sgo.len.1
    have ls : (SX.S sg).length ≤ 100000 := by rw [S_len]; omega
    refine ⟨_, rfl, a, 4, rfl, f2.pot, by decide, by decide, fun r0 H3 r01 r02 e3 => ?_⟩
    obtain ⟨m, rfl⟩ : ∃ m : Nat, r0 = (m : Nat) := ⟨r0.toNat, by omega⟩
    have f3 := f2.trans e3
    refine ⟨(m : Nat), rfl, by omega, by omega, fun D1 hD1 => ?_⟩
    have nD1 : D1 ≠ a := f3.pot.ne hD1
    refine lc_it (walk_range (lo := 0) (n := m)) (fun i H4 => ∃ ws : List Wd, Stp a H3 H4 ∧ H4 D1 = some (.lst (ws.map fun u => V.str (SX.S u))) ∧ ws.length = i ∧ ∀ u ∈ ws, u.length ≤ 3 ∧ ∀ c ∈ u, c ∈ sg) ?_ ?_ ?_ ?_
    · exact ⟨[], same_pot (same_new hD1) f3.pot, upd_same, rfl, fun _ h => nomatch h⟩
    · exact fun _ _ _ _ => trivial
    · rintro i x H4 H5 hi ⟨ws, g1, g2, g3, g4⟩ ⟨rfl, rfl⟩
      refine ⟨rfl, _, rfl, _, rfl, sg, 3, rfl, l1, l3, by decide, fun wl wls H6 e6 nwl kwl wne wlen wch => ?_⟩
      have nwa : wl ≠ a := g1.pot.ne nwl
      have g6 := stp_same g1 e6
      refine ⟨a, .ref wl, _, rfl, g6.pot, .lst (by rw [hid_ne nwa]; exact kwl), by simpa using wne, by rw [List.length_map]; omega, fun v H7 hv e7 => ?_⟩
      obtain ⟨u, hu, rfl⟩ := List.mem_map.mp hv
      refine ⟨_, e7.get (e6 _ _ g2) nD1, by rw [List.length_map, sizeLine_eq]; omega, ws ++ [u], (g6.trans e7).mut hD1 nD1, by rw [upd_same, List.map_append]; rfl, by rw [List.length_append, g3]; rfl, fun x hx => ?_⟩
      rcases List.mem_append.mp hx with hx | hx
      · exact g4 x hx
      · rw [List.mem_singleton.mp hx]
        exact wch u hu
    rintro H4 ⟨ws, g1, g2, g3, g4⟩
    have f4 := f3.trans g1
    refine ⟨D1, _, rfl, .inl ⟨SqL.of g2, fun wt hwt => ?_⟩⟩
    have f5 := stp_same f4 (same_new (o := .tup (ws.map fun u => V.str (SX.S u))) hwt)
    have kw : (upd H4 wt (.tup (ws.map fun u => V.str (SX.S u)))) wt = some (.tup (ws.map fun u => V.str (SX.S u))) := upd_same
    generalize upd H4 wt (.tup (ws.map fun u => V.str (SX.S u))) = H5 at f5 kw
    refine ⟨by rw [sizeLine_eq]; show 1 ≤ _; omega, fun L0 hL0 _ => ?_⟩
    have kL0 : (upd H5 L0 (.lst [.str ""])) L0 = some (.lst ((hdsB (ws.take 0)).map fun u => V.str (SX.S u))) := upd_same
    refine ⟨_, rfl, wt, rfl, ⟨_, SqT.of (same_new hL0 _ _ kw)⟩, for_it (walk_tup (xs := ws.map fun u => V.str (SX.S u))) (fun i σ H6 => ∃ (x4 : Option V) (L : Addr), σ = [some (.ref a), some (.str (SX.S sg)), some (.ref wt), some (.ref L), x4, none, none, none, none, none, none, none, none, none, none, none, none] ∧ Same H5 H6 ∧ H6 L = some (.lst ((hdsB (ws.take i)).map fun u => V.str (SX.S u)))) ?_ ?_ ?_ ?_⟩
    · exact ⟨none, L0, rfl, same_new hL0, kL0⟩
    · rintro i σ H6 _ ⟨x4, L, rfl, g1, g2⟩
      exact SqT.of (g1 _ _ kw)
    · rintro i x σ H6 H7 hi ⟨x4, L, rfl, g1, g2⟩ ⟨rfl, hx⟩
      rw [List.getElem?_map] at hx
      obtain ⟨u, hu, rfl⟩ := Option.map_eq_some_iff.mp hx
      have lu := (g4 u (List.mem_of_getElem? hu)).1
      refine ⟨_, rfl, _, rfl, _, _, rfl, Of3.str (z := SX.S u) (by rw [S_len]; omega), ?_⟩
      rw [s1_len]
      refine ⟨(u.length : Nat), rfl, by omega, by omega, fun D2 hD2 => ?_⟩
      refine lc_it (walk_range (lo := 0) (n := u.length)) (fun n H8 => Same H7 H8 ∧ H8 D2 = some (.lst (((List.range n).map fun i => u.take (i + 1)).map fun u => V.str (SX.S u)))) ?_ ?_ ?_ ?_
      · exact ⟨same_new hD2, upd_same⟩
      · exact fun _ _ _ _ => trivial
      · rintro n y H8 H9 hn ⟨b1, b2⟩ ⟨rfl, rfl⟩
        refine ⟨rfl, _, rfl, _, rfl, _, _, rfl, rfl, _, rfl, _, rfl, by rw [S_len, sizeLine_eq]; omega, ?_⟩
        rw [Int.zero_add, cut_to hn]
        refine ⟨_, b2, by rw [List.length_map, List.length_map, List.length_range, sizeLine_eq]; omega, same_mut b1 hD2, ?_⟩
        rw [upd_same, List.range_succ, List.map_append, List.map_append]
        rfl
      · rintro H8 ⟨b1, b2⟩
        have b2 : H8 D2 = some (.lst ((prefs u).map fun u => V.str (SX.S u))) := b2
        have hl := hdsB_len (n := 3) (ws := ws.take i) (acc := [[]]) fun v hv => (g4 v (List.mem_of_mem_take hv)).1
        have hl2 : (hdsB (ws.take i)).length ≤ 13 := by
          refine Nat.le_trans hl ?_
          rw [List.length_take, List.length_singleton]
          omega
        refine ⟨L, D2, _, _, rfl, rfl, b1 _ _ g2, b2, by rw [List.length_map, List.length_map, prefs_len, sizeLine_eq]; omega, fun L2 hL2 => ⟨_, L2, rfl, (g1.trans b1).trans (same_new hL2), ?_⟩⟩
        rw [upd_same, take_snoc hu, hdsB_snoc, List.map_append]
    rintro σ H6 ⟨x4, L, rfl, g1, g2⟩
    rw [List.length_map, List.take_of_length_le (Nat.le_refl _)] at g2
    have f6 := stp_same f5 g1
    have hl := hdsB_len (n := 3) (ws := ws) (acc := [[]]) fun v hv => (g4 v hv).1
    have hl2 : (hdsB ws).length ≤ 10 := by
      refine Nat.le_trans hl ?_
      rw [List.length_singleton]
      omega
    have hh3 : ∀ h ∈ hdsB ws, h.length ≤ 3 := fun h hh => by
      unfold hdsB at hh
      rw [hdsB_mem] at hh
      rcases hh with hh | ⟨u, hu, hh⟩
      · rw [List.mem_singleton.mp hh]
        decide
      · obtain ⟨i, hi, rfl⟩ := prefs_mem.mp hh
        have := (g4 u hu).1
        rw [List.length_take]
        omega
    have r10 : (rowsOf ws).length ≤ 10 := by
      rw [rowsOf_len]
      refine Nat.le_trans (hd_len (b := 3) (ws := ws) (acc := [[]]) fun v hv => (g4 v hv).1) ?_
      rw [List.length_singleton]
      omega
    generalize hhs : hdsB ws = hs at g2 hl2 hh3
    refine ⟨_, rfl, L, rfl, ⟨_, SqL.of g2⟩, fun D3 hD3 => ?_⟩
    refine lc_it (walk_list (xs := hs.map fun u => V.str (SX.S u))) (fun n H7 => Same H6 H7 ∧ ∃ as : List Addr, H7 D3 = some (.lst (as.map V.ref)) ∧ Paired (fun a (h : Wd) => H7 a = some (.tup (itV (lenT h)))) as (hs.take n)) ?_ ?_ ?_ ?_
    · exact ⟨same_new hD3, [], upd_same, .nil⟩
    · rintro n H7 _ ⟨b1, _⟩
      exact SqL.of (b1 _ _ g2)
    · rintro n x H7 H8 hn ⟨b1, as, b2, b3⟩ ⟨rfl, hx⟩
      rw [List.getElem?_map] at hx
      obtain ⟨h, hh, rfl⟩ := Option.map_eq_some_iff.mp hx
      have hl3 := hh3 h (List.mem_of_getElem? hh)
      refine ⟨rfl, _, rfl, _, _, rfl, Of3.str (z := SX.S h) (by rw [S_len]; omega), _, rfl, by show 2 ≤ sizeLine; decide, fun p hp => ?_⟩
      rw [s1_len]
      have e6 := same_new (o := .tup [.int (h.length : Nat), .str (SX.S h)]) hp
      have k6 : (upd H8 p (.tup [.int (h.length : Nat), .str (SX.S h)])) p = some (.tup (itV (lenT h))) := upd_same
      generalize upd H8 p (.tup [.int (h.length : Nat), .str (SX.S h)]) = H9 at e6 k6
      have b2' := e6 _ _ b2
      have las := paired_len b3
      rw [List.length_take] at las
      have hle : ∀ b xs, H9 b = some (.tup xs) → (upd H9 D3 (.lst (as.map V.ref ++ [.ref p]))) b = some (.tup xs) := fun b xs hb => by
        rw [upd_ne (ne_of hb b2' (fun z => by cases z))]; exact hb
      refine ⟨_, b2', by rw [List.length_map, sizeLine_eq]; omega, same_mut (b1.trans e6) hD3, as ++ [p], by rw [upd_same, List.map_append]; rfl, ?_⟩
      exact paired_take_snoc (L2.Paired.mapP b3 fun _ _ h => hle _ _ (e6 _ _ h)) hh (hle _ _ k6)
    rintro H7 ⟨b1, as, b2, b3⟩
    rw [List.length_map, List.take_of_length_le (Nat.le_refl _)] at b3
    obtain ⟨ks, ek1, ek2, ek3⟩ := pairs_of b3
    have lks : ks.length = hs.length := by have := congrArg List.length ek2; rw [List.length_map, List.length_map] at this; exact this
    refine ⟨D3, ks, rfl, SqL.of (by rw [ek1]; exact b2), ek3, by omega, fun sA M oS eoS hsA sub all ndM => ?_⟩
    have srt := set_sorted ek2 (fun h => by rw [hhs]) sub all ndM
    refine ⟨sA, M, rfl, by rw [upd_same, eoS], fun q hq => same_new hsA _ _ (ek3 q (sub q hq)), fun ys p hys hp => ?_⟩
    rw [srt] at hys
    have s8 : Same H7 (upd (upd H7 sA oS) p (.lst ys)) := (same_new hsA).trans (same_new hp)
    have k8 : (upd (upd H7 sA oS) p (.lst ys)) p = some (.lst ys) := upd_same
    have hys : Paired (fun x q => ∃ t, x = V.ref t ∧ (upd (upd H7 sA oS) p (.lst ys)) t = some (.tup (itV q))) ys ((rowsOf ws).map lenT) := L2.Paired.mapP hys fun x q ⟨t, e, ht⟩ => ⟨t, e, same_new hp _ _ ht⟩
    generalize upd (upd H7 sA oS) p (.lst ys) = H8 at s8 k8 hys
    have lys := paired_len hys
    rw [List.length_map] at lys
    refine ⟨p, rfl, ⟨_, SqL.of k8⟩, fun R hR => ?_⟩
    refine lc_it (walk_list (xs := ys)) (fun n H9 => Same H8 H9 ∧ H9 R = some (.lst (((rowsOf ws).take n).map fun h => V.str (SX.S h)))) ?_ ?_ ?_ ?_
    · exact ⟨same_new hR, upd_same⟩
    · rintro n H9 _ ⟨c1, _⟩
      exact SqL.of (c1 _ _ k8)
    · rintro n x H9 H10 hn ⟨c1, c2⟩ ⟨rfl, hx⟩
      obtain ⟨q, hq, t, rfl, ht⟩ := paired_get hys hx
      rw [List.getElem?_map] at hq
      obtain ⟨h, hh, rfl⟩ := Option.map_eq_some_iff.mp hq
      have lr : ((rowsOf ws).take n).length < sizeLine := by
        rw [List.length_take, sizeLine_eq]
        omega
      refine ⟨rfl, _, rfl, t, _, 1, .str (SX.S h), rfl, rfl, SqT.of (c1 _ _ ht), rfl, _, c2, by rw [List.length_map]; exact lr, same_mut c1 hR, ?_⟩
      rw [upd_same, take_snoc hh, List.map_append]; rfl
    rintro H9 ⟨c1, c2⟩
    rw [lys, List.take_of_length_le (Nat.le_refl _)] at c2
    have e59 := (((g1.trans b1).trans s8).trans c1)
    generalize hrows : rowsOf ws = rows at c2 r10
    have rnd : rows.Nodup := by rw [← hrows]; exact rowsOf_nodup ws
    have row3 : ∀ h ∈ rows, h.length ≤ 3 := fun h hh => by
      rw [← hrows] at hh
      refine hh3 h ?_
      rw [← hhs]
      exact hdsB_of.mpr ((sortW_perm (hdsOf ws)).mem_iff.mp hh)
    have nd := sgo.nodup
    refine ⟨by show 0 ≤ sizeLine; exact Nat.zero_le _, fun Rw hRw _ => ?_⟩
    have stE : wordSts sg ws = rows.map fun h => (rowMv sg rows h, decide (h ∈ ws)) := by unfold wordSts; rw [hrows]
    refine ⟨_, rfl, R, rfl, ⟨_, SqL.of (same_new hRw _ _ c2)⟩, for_it (walk_list (xs := rows.map fun h => V.str (SX.S h))) (fun i σ H10 => ∃ (x6 x7 : Option V) (as : List Addr), σ = [some (.ref a), some (.str (SX.S sg)), some (.ref wt), some (.ref R), x4, some (.ref Rw), x6, x7, none, none, none, none, none, none, none, none, none] ∧ Same H9 H10 ∧ H10 Rw = some (.lst (as.map V.ref)) ∧ Paired (StAtt H10) as ((wordSts sg ws).take i)) ?_ ?_ ?_ ?_⟩
    · exact ⟨none, none, [], rfl, same_new hRw, upd_same, .nil⟩
    · rintro i σ H10 _ ⟨x6, x7, as, rfl, d1, _⟩
      exact SqL.of (d1 _ _ c2)
    · rintro i x σ H10 H11 hi ⟨x6, x7, as, rfl, d1, d2, d3⟩ ⟨rfl, hx⟩
      rw [List.getElem?_map] at hx
      obtain ⟨h, hh, rfl⟩ := Option.map_eq_some_iff.mp hx
      have h3 := row3 h (List.mem_of_getElem? hh)
      have dR := d1 _ _ c2
      refine ⟨_, rfl, _, rfl, fun D4 hD4 => ?_⟩
      refine lc_it walk_str (fun m Hc => Same H11 Hc ∧ ∃ ps : List Addr, Hc D4 = some (.lst (ps.map V.ref)) ∧ Paired (MvAt Hc) ps (rowMv (sg.take m) rows h)) ?_ ?_ ?_ ?_
      · exact ⟨same_new hD4, [], upd_same, .nil⟩
      · exact fun _ _ _ _ => trivial
      · rintro m y Hc Hd hm ⟨q1, ps, q2, q3⟩ ⟨rfl, c0, hc, rfl⟩
        have hc' : sg[m]? = some c0 := by rw [← Array.getElem?_toList] at hc; exact hc
        have l1c : (⟨#[c0]⟩ : Str).length = 1 := rfl
        have ek : SX.S h ++ (⟨#[c0]⟩ : Str) = SX.S (h ++ [c0]) := by
          show SX.S h ++ SX.S [c0] = _
          rw [S_add]
        have kR := q1 _ _ dR
        refine ⟨rfl, _, rfl, _, rfl, _, _, rfl, rfl, by rw [S_len, l1c, sizeLine_eq]; omega, _, rfl, R, _, rfl, .inl (SqL.of kR), rfl, flat_words rows, _, rfl, ?_⟩
        rw [ek, in_words, if_neg Bool.false_ne_true, rowMv_snoc hc']
        by_cases q : h ++ [c0] ∈ rows
        · rw [if_pos q, decide_eq_true q]
          have lix := ixOf_lt q
          refine iteT ⟨_, rfl, _, rfl, .inl ⟨rfl, _, SqL.of kR⟩, _, rfl, _, rfl, _, _, rfl, rfl, by rw [S_len, l1c, sizeLine_eq]; omega, R, _, _, ixOf rows (h ++ [c0]), .str (SX.S (h ++ [c0])), rfl, rfl, SqL.of kR, rfl, flat_words rows, ?_, ?_, ?_, by show 2 ≤ sizeLine; decide, fun T2 hT2 => ?_⟩
          · rw [List.getElem?_map, ixOf_get q]
            rfl
          · rw [ek, eq_words]
            exact decide_eq_true rfl
          · intro m2 z2 hm2 hz2
            rw [List.getElem?_map] at hz2
            obtain ⟨u, hu, rfl⟩ := Option.map_eq_some_iff.mp hz2
            rw [ek, eq_words]
            exact decide_eq_false (ixOf_min hm2 hu)
          · have e8 := same_new (o := .tup [.str ⟨#[c0]⟩, .int (ixOf rows (h ++ [c0]) : Nat)]) hT2
            have k8' : (upd Hd T2 (.tup [.str ⟨#[c0]⟩, .int (ixOf rows (h ++ [c0]) : Nat)])) T2 = some (.tup [S1 c0, .int (ixOf rows (h ++ [c0]) : Nat)]) := upd_same
            generalize upd Hd T2 (.tup [.str ⟨#[c0]⟩, .int (ixOf rows (h ++ [c0]) : Nat)]) = He at e8 k8'
            have q2' := e8 _ _ q2
            have lps := paired_len q3
            have h1 := rowMv_sub (sg := sg.take m) (rows := rows) (h := h)
            have h2 := h1.length_le
            rw [List.length_map, List.length_take] at h2
            have hle : ∀ b xs, He b = some (.tup xs) → (upd He D4 (.lst (ps.map V.ref ++ [.ref T2]))) b = some (.tup xs) := fun b xs hb => by
              rw [upd_ne (ne_of hb q2' (fun z => by cases z))]; exact hb
            refine ⟨_, q2', by rw [List.length_map, sizeLine_eq]; omega, same_mut (q1.trans e8) hD4, ps ++ [T2], by rw [upd_same, List.map_append]; rfl, ?_⟩
            exact paired_snoc (L2.Paired.mapP q3 fun p x hpx => hle _ _ (e8 _ _ hpx)) (hle _ _ k8')
        · rw [if_neg q, decide_eq_false q, List.append_nil]
          exact iteF ⟨q1, ps, q2, q3⟩
      · rintro Hc ⟨q1, ps, q2, q3⟩
        have e9 : sg.take (SX.S sg).cps.size = sg := List.take_of_length_le (Nat.le_of_eq (len_cps (SX.S sg)).symm)
        rw [e9] at q3
        have nRw : Hc Rw = some (.lst (as.map V.ref)) := q1 _ _ d2
        refine ⟨_, rfl, .inl ⟨rfl, _, SqL.of nRw⟩, _, rfl, D4, ps, kRow (rowMv sg rows h), rfl, SqL.of q2, mv_kvs q3, fun E2 hE2 => ?_⟩
        rw [kRow_dict nd rowMv_sub]
        have e10 := same_new (o := .dK (kRow (rowMv sg rows h))) hE2
        have k10 : (upd Hc E2 (.dK (kRow (rowMv sg rows h)))) E2 = some (.dK (kRow (rowMv sg rows h))) := upd_same
        generalize upd Hc E2 (.dK (kRow (rowMv sg rows h))) = Hf at e10 k10
        have wf := e10 _ _ (q1 _ _ (d1 _ _ (e59 _ _ kw)))
        refine ⟨_, rfl, _, rfl, wt, _, rfl, .inr (SqT.of wf), rfl, flat_words ws, ?_⟩
        rw [in_words, if_neg Bool.false_ne_true]
        refine ⟨by show 2 ≤ sizeLine; decide, fun T2 hT2 => ?_⟩
        have e11 := same_new (o := .tup [.ref E2, .bl (decide (h ∈ ws))]) hT2
        have k11 : (upd Hf T2 (.tup [.ref E2, .bl (decide (h ∈ ws))])) T2 = some (.tup [.ref E2, .bl (decide (h ∈ ws))]) := upd_same
        generalize upd Hf T2 (.tup [.ref E2, .bl (decide (h ∈ ws))]) = Hg at e11 k11
        have eAll := (q1.trans e10).trans e11
        have nRg := eAll _ _ d2
        have las := paired_len d3
        rw [List.length_take] at las
        have lw : (wordSts sg ws).length ≤ 10 := by rw [stE, List.length_map]; exact r10
        have hle : ∀ b o, (∀ l, o ≠ .lst l) → Hg b = some o → (upd Hg Rw (.lst (as.map V.ref ++ [.ref T2]))) b = some o := fun b o ho hb => by
          rw [upd_ne (fun z => by rw [z, nRg] at hb; cases hb; exact ho _ rfl)]; exact hb
        have hp : (wordSts sg ws)[i]? = some (rowMv sg rows h, decide (h ∈ ws)) := by rw [stE, List.getElem?_map, hh]; rfl
        refine ⟨Rw, _, _, rfl, rfl, nRg, by rw [List.length_map, sizeLine_eq]; omega, _, _, as ++ [T2], rfl, same_mut (d1.trans eAll) hRw, by rw [upd_same, List.map_append]; rfl, ?_⟩
        refine paired_take_snoc (L2.Paired.mapP d3 fun a p ⟨b, z1, z2⟩ => ?_) hp ?_
        · exact ⟨b, hle _ _ (by intro l z; cases z) (eAll _ _ z1), hle _ _ (by intro l z; cases z) (eAll _ _ z2)⟩
        · exact ⟨E2, hle _ _ (by intro l z; cases z) k11, hle _ _ (by intro l z; cases z) (e11 _ _ k10)⟩
    rintro σ H10 ⟨x6, x7, as2, rfl, d1, d2, d3⟩
    rw [List.length_map, List.take_of_length_le (by rw [stE, List.length_map]; exact Nat.le_refl _)] at d3
    have lst : (wordSts sg ws).length = rows.length := by rw [stE, List.length_map]
    have f10 := stp_same f5 (e59.trans d1)
    have kR10 := d1 _ _ c2
    have kw10 := d1 _ _ (e59 _ _ kw)
    have wok := wdOk_of sgo (by omega) g4
    have ss10 : ∀ u, H10 u = none → StsT (upd H10 u (.tup (as2.map V.ref))) u (wordSts sg ws) := fun u hu => ⟨as2, upd_same, L2.Paired.mapP d3 fun _ _ h => h.le (same_new hu)⟩
    dsimp only
    refine via_asg (fun v H' => Same H10 H' ∧ MadeV H' v (optS (wordSts sg ws))) (fun Q1 hQ => ?_) (fun dv H11 g11 => ?_)
    · refine ⟨_, rfl, _, _, rfl, Of3.lst kR10, _, _, rfl, rfl, _, rfl, ite2 (fun c => hQ _ _ ⟨Same.refl _, ?_⟩) (fun c => ⟨_, rfl, Rw, _, rfl, .inl ⟨SqL.of d2, fun u hu => hQ _ _ ⟨same_new hu, ?_⟩⟩⟩)⟩
      · have c := of_decide_eq_true c
        rw [List.length_map] at c
        rw [optS_no (by omega)]
        rfl
      · rw [optS_yes (by
          have : ¬ (6 : Int) < ((rows.map fun h => V.str (SX.S h)).length : Nat) := fun z => c (decide_eq_true z)
          rw [List.length_map] at this
          omega)]
        exact ⟨u, rfl, ss10 u hu⟩
    have f11 := stp_same f10 g11.1
    have kw11 := g11.1 _ _ kw10
    refine made_ok (sg := sg) (r := optS (wordSts sg ws)) (tabs_stp ht pot f11) (fun H12 E5 Q5 e5 good bad => ?_) (fun v H13 e13 t13 mv => ?_)
    · exact ⟨rfl, _, rfl, _, rfl, wt, sg, ws, rfl, e5 _ _ kw11 (fun _ z => nomatch z), sgo, wok, fun le z H' e n rz => good _ (optS_yes (by rw [hrows] at le; omega)) z H' e rz (by rw [hrows] at le; omega), fun gt => bad (optS_no (by rw [hrows] at gt; omega))⟩
    have g13 := made_td (td_n e13) g11.2
    have ft := fit_made sgo (optS_okW (ws := ws))
    refine ⟨v, _, rfl, dx_made sgo mv optS_okW, made_case mv ft, _, rfl, dv, _, rfl, dx_made sgo g13 optS_okW, made_case g13 ft, rfl, _, rfl, ?_⟩
    refine ite2 (fun z => ?_) (fun _ => ?_)
    · simp at z
    have n13 : KeepN a H H13 := (keepN_stp f11).trans (keepN_n e13)
    have p13 := pot_n e13 f11.pot
    refine ⟨⟨_, rfl⟩, _, rfl, _, rfl, fun Dj hDj => ?_⟩
    have nDj : Dj ≠ a := p13.ne hDj
    refine lc_it walk_str (fun j Hc => ∃ cs : List Nat, Stp a H13 Hc ∧ Hc Dj = some (.lst (cs.map S1)) ∧ cs.Sublist (sg.take j)) ?_ ?_ ?_ ?_
    · exact ⟨[], same_pot (same_new hDj) p13, upd_same, List.Sublist.slnil⟩
    · exact fun _ _ _ _ => trivial
    · rintro j y Hc Hd hj ⟨cs, q1, q2, q3⟩ ⟨rfl, c0, hc, rfl⟩
      have hc' : sg[j]? = some c0 := by rw [← Array.getElem?_toList] at hc; exact hc
      refine ⟨rfl, _, rfl, a, 2, rfl, q1.pot, by decide, by decide, fun r H14 r0 r1 e14 => ⟨rfl, _, rfl, ite2 (fun _ => ⟨_, rfl, _, e14.get q2 nDj, ?_, cs ++ [c0], (q1.trans e14).mut hDj nDj, ?_, ?_⟩) (fun _ => ⟨cs, q1.trans e14, e14.get q2 nDj, ?_⟩)⟩⟩
      · have := q3.length_le
        rw [List.length_take] at this
        rw [List.length_map, sizeLine_eq]
        omega
      · rw [upd_same, List.map_append]
        rfl
      · rw [take_snoc hc']
        exact q3.append (List.Sublist.refl _)
      · rw [take_snoc hc']
        exact q3.trans (List.sublist_append_left _ _)
    rintro Hc ⟨cs, q1, q2, q3⟩
    have e9 : sg.take (SX.S sg).cps.size = sg := List.take_of_length_le (Nat.le_of_eq (len_cps (SX.S sg)).symm)
    rw [e9] at q3
    have lcs := q3.length_le
    refine ⟨_, Dj, cs.map fun c => (⟨#[c]⟩ : Str), rfl, rfl, .inl (SqL.of (by rw [List.map_map]; exact q2)), ?_, ?_⟩
    · have e0 : ("" : Str).length = 0 := by decide +kernel
      have e1 : ((cs.map fun c => (⟨#[c]⟩ : Str)).map (·.length)).sum = cs.length := by
        rw [List.map_map]
        show (cs.map fun _ => 1).sum = _
        clear q2 q3 lcs
        induction cs with
        | nil => rfl
        | cons c cs ih => rw [List.map_cons, List.sum_cons, ih, List.length_cons]; omega
      rw [e0, e1]
      omega
    rw [join_ones]
    refine ⟨_, rfl, a, 6, rfl, q1.pot, by decide, by decide, fun r1 H14 r10' r11' e14 => ?_⟩
    obtain ⟨rb, rfl⟩ : ∃ z : Nat, r1 = (z : Nat) := ⟨r1.toNat, by omega⟩
    have f14 := q1.trans e14
    refine ⟨_, _, rfl, rfl, ?_⟩
    refine ⟨_, rfl, _, rfl, a, (1 + rb : Nat), rfl, f14.pot, by omega, by omega, fun r2 H15 r20 r21 e15 => ⟨by show 0 ≤ sizeLine; exact Nat.zero_le _, fun Rv hRv _ => ⟨_, _, rfl, ?_⟩⟩⟩
    obtain ⟨rs, rfl⟩ : ∃ z : Nat, r2 = (z : Nat) := ⟨r2.toNat, by omega⟩
    have f15 := f14.trans e15
    refine ⟨_, rfl, (1 + rb : Nat), rfl, by omega, by omega, for_range (fun i σ H16 => ∃ (x7 x12 : Option V) (as : List Addr), σ = [some (.ref a), some (.str (SX.S sg)), some (.ref wt), some (.ref R), x4, some (.ref Rv), x6, x7, some dv, some (.str (SX.S cs)), some (.int (1 + rb : Nat)), some (.int (rs : Nat)), x12, none, none, none, none] ∧ Same H15 H16 ∧ H16 Rv = some (.lst (as.map V.ref)) ∧ Paired (StAtt H16) as ((countSts sg cs (1 + rb) rs).take i)) ?_ ?_ ?_⟩
    · exact ⟨_, none, [], rfl, same_new hRv, upd_same, .nil⟩
    · rintro i σ H16 hi ⟨x7', x12, as, rfl, d1', d2', d3'⟩
      refine ⟨_, rfl, _, rfl, fun D4 hD4 => ?_⟩
      have hi : i < 1 + rb := hi
      refine lc_it walk_str (fun j Hc => Same H16 Hc ∧ ∃ ps : List Addr, Hc D4 = some (.lst (ps.map V.ref)) ∧ Paired (MvAt Hc) ps (cMv (sg.take j) cs (1 + rb) i)) ?_ ?_ ?_ ?_
      · exact ⟨same_new hD4, [], upd_same, .nil⟩
      · exact fun _ _ _ _ => trivial
      · rintro j y Hd He hj ⟨b1', ps, b2', b3'⟩ ⟨rfl, c0, hc, rfl⟩
        have hc' : sg[j]? = some c0 := by rw [← Array.getElem?_toList] at hc; exact hc
        refine ⟨rfl, _, rfl, _, rfl, _, rfl, _, rfl, c0, _, rfl, rfl, _, rfl, _, _, rfl, rfl, _, rfl, _, rfl, if c0 ∈ cs then i + 1 else i, 1 + rb, ?_, rfl, by omega, by show 2 ≤ sizeLine; decide, fun T2 hT2 => ?_⟩
        · by_cases hcs : c0 ∈ cs
          · have : decide (c0 ∈ (SX.S cs).cps.toList) = true := decide_eq_true hcs
            rw [this, if_pos rfl, if_pos hcs]
            congr 1
            omega
          · have : decide (c0 ∈ (SX.S cs).cps.toList) = false := decide_eq_false hcs
            rw [this, if_neg Bool.false_ne_true, if_neg hcs]
            congr 1
            omega
        · rw [cMv_mod hi, cMv_snoc hc']
          have e8 := same_new (o := .tup [.str ⟨#[c0]⟩, .int ((if c0 ∈ cs then (i + 1) % (1 + rb) else i : Nat) : Int)]) hT2
          have k8' : (upd He T2 (.tup [.str ⟨#[c0]⟩, .int ((if c0 ∈ cs then (i + 1) % (1 + rb) else i : Nat) : Int)])) T2 = some (.tup [S1 c0, .int ((if c0 ∈ cs then (i + 1) % (1 + rb) else i : Nat) : Int)]) := upd_same
          generalize upd He T2 (.tup [.str ⟨#[c0]⟩, .int ((if c0 ∈ cs then (i + 1) % (1 + rb) else i : Nat) : Int)]) = Hf at e8 k8'
          have b2'' := e8 _ _ b2'
          have lps := paired_len b3'
          have lps2 : (cMv (sg.take j) cs (1 + rb) i).length ≤ sg.length := by
            have := congrArg List.length (cMv_fst (sg.take j) cs (1 + rb) i)
            rw [List.length_map, List.length_take] at this
            omega
          have hle : ∀ b xs, Hf b = some (.tup xs) → (upd Hf D4 (.lst (ps.map V.ref ++ [.ref T2]))) b = some (.tup xs) := fun b xs hb => by
            rw [upd_ne (ne_of hb b2'' (fun z => by cases z))]; exact hb
          refine ⟨_, b2'', by rw [List.length_map, sizeLine_eq]; omega, same_mut (b1'.trans e8) hD4, ps ++ [T2], by rw [upd_same, List.map_append]; rfl, ?_⟩
          exact paired_snoc (L2.Paired.mapP b3' fun p x hpx => hle _ _ (e8 _ _ hpx)) (hle _ _ k8')
      · rintro Hd ⟨b1', ps, b2', b3'⟩
        rw [e9] at b3'
        have nRv := b1' _ _ d2'
        refine ⟨_, rfl, .inl ⟨rfl, _, SqL.of nRv⟩, _, rfl, D4, ps, kRow (cMv sg cs (1 + rb) i), rfl, SqL.of b2', mv_kvs b3', fun E2 hE2 => ?_⟩
        rw [kRow_dict nd (by rw [cMv_fst]; exact List.Sublist.refl sg)]
        have e10 := same_new (o := .dK (kRow (cMv sg cs (1 + rb) i))) hE2
        have k10 : (upd Hd E2 (.dK (kRow (cMv sg cs (1 + rb) i)))) E2 = some (.dK (kRow (cMv sg cs (1 + rb) i))) := upd_same
        generalize upd Hd E2 (.dK (kRow (cMv sg cs (1 + rb) i))) = Hf at e10 k10
        refine ⟨_, rfl, _, rfl, rfl, ?_⟩
        rw [show decide (V.int (0 + (i : Int)) = V.int ((rs : Nat) : Int)) = decide (i = rs) from decide_eq_decide.mpr ⟨fun q => by injection q with q; omega, fun q => by rw [q, Int.zero_add]⟩]
        refine ⟨by show 2 ≤ sizeLine; decide, fun T2 hT2 => ?_⟩
        have e11 := same_new (o := .tup [.ref E2, .bl (decide (i = rs))]) hT2
        have k11 : (upd Hf T2 (.tup [.ref E2, .bl (decide (i = rs))])) T2 = some (.tup [.ref E2, .bl (decide (i = rs))]) := upd_same
        generalize upd Hf T2 (.tup [.ref E2, .bl (decide (i = rs))]) = Hg at e11 k11
        have eAll := (b1'.trans e10).trans e11
        have nRg := eAll _ _ d2'
        have las := paired_len d3'
        rw [List.length_take] at las
        have lc : (countSts sg cs (1 + rb) rs).length = 1 + rb := by unfold countSts; rw [List.length_map, List.length_range]
        have hle : ∀ b o, (∀ l, o ≠ .lst l) → Hg b = some o → (upd Hg Rv (.lst (as.map V.ref ++ [.ref T2]))) b = some o := fun b o ho hb => by
          rw [upd_ne (fun z => by rw [z, nRg] at hb; cases hb; exact ho _ rfl)]; exact hb
        have hp : (countSts sg cs (1 + rb) rs)[i]? = some (cMv sg cs (1 + rb) i, decide (i = rs)) := by
          unfold countSts
          rw [List.getElem?_map, List.getElem?_range hi]
          rfl
        refine ⟨Rv, _, _, rfl, rfl, nRg, by rw [List.length_map, sizeLine_eq]; omega, _, _, as ++ [T2], rfl, same_mut (d1'.trans eAll) hRv, by rw [upd_same, List.map_append]; rfl, ?_⟩
        refine paired_take_snoc (L2.Paired.mapP d3' fun a p ⟨b, z1, z2⟩ => ?_) hp ?_
        · exact ⟨b, hle _ _ (by intro l z; cases z) (eAll _ _ z1), hle _ _ (by intro l z; cases z) (eAll _ _ z2)⟩
        · exact ⟨E2, hle _ _ (by intro l z; cases z) k11, hle _ _ (by intro l z; cases z) (e11 _ _ k10)⟩
    · rintro σ H16 ⟨x7', x12, as, rfl, d1', d2', d3'⟩
      have lc : (countSts sg cs (1 + rb) rs).length = 1 + rb := by unfold countSts; rw [List.length_map, List.length_range]
      have d3' : Paired (StAtt H16) as ((countSts sg cs (1 + rb) rs).take (1 + rb)) := d3'
      rw [List.take_of_length_le (by omega)] at d3'
      refine ⟨rfl, _, rfl, _, rfl, _, rfl, _, rfl, sg, cs, 1 + rb, rs, rfl, sgo, q3, by omega, by omega, by omega, fun z H17 e17 nz ruz => ?_⟩
      have ruz' := ruz
      obtain ⟨dz, _, _, _, slz, _⟩ := ruz'
      have e16z := d1'.trans e17
      refine ⟨z, dz, _, rfl, slz, z, sg, _, rfl, ruz, by omega, fun t3 H18 e18 sn => ⟨_, rfl, Rv, _, rfl, .inl ⟨SqL.of (e18 _ _ (e17 _ _ d2')), fun u hu => ?_⟩⟩⟩
      have su := same_new (o := .tup (as.map V.ref)) hu
      have eN := (e16z.trans e18).trans su
      have stu : StsT (upd H18 u (.tup (as.map V.ref))) u (countSts sg cs (1 + rb) rs) := ⟨as, upd_same, L2.Paired.mapP d3' fun _ _ h => h.le ((e17.trans e18).trans su)⟩
      have sb : ∀ p ∈ countSts sg cs (1 + rb) rs, (p.1.map (·.1)).Sublist sg := fun p hp => by
        unfold countSts at hp
        obtain ⟨i, _, rfl⟩ := List.mem_map.mp hp
        show ((cMv sg cs (1 + rb) i).map (·.1)).Sublist sg
        rw [cMv_fst]
        exact List.Sublist.refl sg
      refine ⟨t3, u, _, _, sg, rfl, rfl, sn.sts.le su, stu, nd, sb, sb, ?_⟩
      rw [decide_eq_true rfl]
      exact k _ ((n13.trans (keepN_stp f15)).trans (keepN_same eN)) (stp_same f15 eN).pot ((tabs_stp t13 p13 f15).ext eN)
end
end Fs
namespace Fs
open PySem PySem.Spec PyProof.Rows L2 SlX RZ SrtO ClX
open LamX (ExtN Tabs TabS TabB LamS lamEnv lamCx GivesTo tLam CodeO)
def rNeX : R2 := fun x y H Q => ∃ d e, Dx H x d ∧ Dx H y e ∧ SeqAt.shaped d = true ∧ SeqAt.shaped e = true ∧ Q (.bl (!PyData.eqv d e)) H
theorem op_neX {X : Cx} (hu : X.A.units + 64 < cLine) : OpR X (compareOp .NotEq) rNeX := by
  intro pins s σ H x y v u Q I rx ry h
  obtain ⟨d, e, hd, he, sd, se, q⟩ := h
  obtain ⟨as, r1, _⟩ := Dx.reads I d x v hd rx
  obtain ⟨bs, r2, _⟩ := Dx.reads I e y u he ry
  exact SeqAt.compareNe_shaped r1 r2 sd se hu ⟨.bl _, H, I, rfl, q⟩
theorem passX0 {X : Cx} : Passes (L2.CX X.prog X.w) X E0 := fun _ _ _ _ _ _ _ ⟨_, _, _, _, _, _, _, _, _, _, _, _, z⟩ => z.elim
theorem sqL_keepN {K : PySem.W.Frag} {a p : Addr} {H0 H1 H2 : Hp} {xs : List V} (n : H0 a = none) (h : SqL K H0 p xs) (e1 : Same H0 H1) (e2 : KeepN a H1 H2) : SqL K H2 p xs := by
  rcases h with (h | ⟨o, h⟩) | h
  · exact .inl (.inl (e2 _ _ (ne_of_none h n) (e1 _ _ h) (fun _ z => nomatch z)))
  · exact .inl (.inr ⟨o, e2 _ _ (ne_of_none h n) (e1 _ _ h) (fun _ z => nomatch z)⟩)
  · exact .inr h
theorem ru_clear {H : Hp} {x C D : Addr} {sg : List Nat} {st : Sts} {kv : List (Key × V)} (h : RuAt H x C sg st) (hD : H D = some (.dK kv)) (ne : ∀ p ∈ st, kRow p.1 ≠ kv) : RuAt (upd H D (.dK [])) x C sg st := by
  obtain ⟨dx, lg, lm, ds, h1, h2, h3, h4⟩ := h
  have at_ : ∀ b o, H b = some o → o ≠ .dK kv → upd H D (.dK []) b = some o := fun b o hb n => by
    rw [upd_ne]
    · exact hb
    · intro z
      rw [z, hD] at hb
      exact n (Option.some.inj hb).symm
  refine ⟨dx, lg, lm, ds, ?_, at_ _ _ h2 (fun z => nomatch z), at_ _ _ h3 (fun z => nomatch z), ?_⟩
  · rcases h1 with ⟨h, r⟩ | ⟨h, r⟩
    · exact .inl ⟨at_ _ _ h (fun z => nomatch z), r⟩
    · exact .inr ⟨at_ _ _ h (fun z => by unfold SlO at z; cases z), at_ _ _ r (fun z => nomatch z)⟩
  · clear h2 h3 h1
    induction h4 with
    | nil => exact .nil
    | cons r _ ih =>
      refine .cons (at_ _ _ r fun z => ?_) (ih fun p hp => ne p (List.mem_cons_of_mem _ hp))
      injection z with z
      exact ne _ List.mem_cons_self z
theorem tabs_mutK {T : List (Addr × Str)} {H : Hp} {l : Addr} {kv kw : List (Key × V)} (t : Tabs T H) (h : H l = some (.dK kv)) : Tabs T (upd H l (.dK kw)) := by
  intro p hp
  obtain ⟨ps, h1, h2, h3⟩ := t p hp
  refine ⟨ps, ?_, h2, fun pos cv hc => ?_⟩
  · rw [upd_ne]
    · exact h1
    · intro e
      rw [e, h] at h1
      cases h1
  · obtain ⟨c, e1, e2⟩ := h3 pos cv hc
    refine ⟨c, e1, ?_⟩
    rw [upd_ne]
    · exact e2
    · intro e
      rw [e, h] at e2
      unfold CodeO at e2
      cases e2
theorem runN_clear {H0 H H1 : Hp} {x C D : Addr} {sg : List Nat} {st : Sts} {o : HO} {kv : List (Key × V)} (h : RuN H0 H x C sg st) (h0 : H0 D = some o) (e : Same H H1) (hD : H1 D = some (.dK kv)) : RuAt (upd H1 D (.dK [])) x C sg st := by
  obtain ⟨dx, lg, lm, ds, h1, h2, h3, h4, h5⟩ := h
  have at_ : ∀ b o, H1 b = some o → (∀ l, o ≠ .dK l) → upd H1 D (.dK []) b = some o := fun b o hb n => by
    rw [upd_ne]
    · exact hb
    · intro z
      rw [z, hD] at hb
      exact n _ (Option.some.inj hb).symm
  refine ⟨dx, lg, lm, ds, ?_, at_ _ _ (e _ _ h2) (fun _ z => nomatch z), at_ _ _ (e _ _ h3) (fun _ z => nomatch z), ?_⟩
  · rcases h1 with ⟨h, r⟩ | ⟨h, r⟩
    · exact .inl ⟨at_ _ _ (e _ _ h) (fun _ z => nomatch z), r⟩
    · exact .inr ⟨at_ _ _ (e _ _ h) (fun _ z => by unfold SlO at z; cases z), at_ _ _ (e _ _ r) (fun _ z => nomatch z)⟩
  · clear h2 h3 h1
    induction h4 with
    | nil => exact .nil
    | @cons d p ds st r _ ih =>
      refine .cons ?_ (ih fun d hd => h5 d (List.mem_cons_of_mem _ hd))
      show upd H1 D (.dK []) _ = _
      rw [upd_ne]
      · exact e _ _ r
      · intro z
        have := h5 d List.mem_cons_self
        rw [z, h0] at this
        cases this
section
variable {P : Program} {w : World} {K : PySem.W.Frag} {mg : Str → Option Value} {base : Heap} {C TM c Pt : Addr} {tabs : List (Addr × Str)}
def spLaw (K : PySem.W.Frag) (tabs : List (Addr × Str)) : Sp := fun vs H Q _ => ∃ (p : Addr) (ns : List Int), vs = [.ref p] ∧ SqL K H p (ns.map V.int) ∧ ns.length ≤ 63 ∧ Tabs tabs H ∧ ∀ H', Q (.bl true) H'
abbrev s_law : Stmt := top 43
theorem sc_law : FnScope ["script", "at", "feed", "even", "told", "moves", "rule", "five"] ["script"] (defScope s_law) := ⟨rfl, rfl, rfl, by decide +kernel, rfl, by decide +kernel, by decide +kernel⟩
theorem fng_law {f fI : Addr} {oc kV doc pm ct : Value} {od an : Option Addr} {osl : Array (Option Value)} (look : K.lookup f = some ⟨oc, od, .func (PySem.W.fnOf "law" "law" (defArgs s_law) (defBody s_law) (defScope s_law) .none kV doc pm an (.ref c) ct), osl⟩) (code : PySem.W.codeIn K (.ref c) "law" = true)
    (T : Bs mg) (G : Gs mg) (Z : Rx K mg C) (Y : TMy K mg TM) (D_made : Df K mg "_law_made" s_made ["call"]) (C_feed : Cal P w K mg base 1 "_law_feed" (spFeed K)) (C_right : Cal P w K mg base 11 "_law_right" (spRight tabs)) (C_made_right : Cal P w K mg base 10 "_law_made_right" (spRight tabs))
    (MK : L2.Mk K C fI) (F_init : FnR P w K mg base CX0 4 fI (spInit2 C)) (P_states : PrP P w K mg base C "states" 1 (spSt C)) (M_of_words : CmP P w K mg base (L2.CX P w) C "of_words" 6 (spOfW C TM)) (M_counting : CmP P w K mg base CX0 C "counting" 6 (spCount C)) (M_negated : MthP P w K mg base (L2.CX P w) C "negated" 7 (spNeg C TM))
    (M_len : Mth P w K mg base CX0 C "__len__" 1 (spLen C)) (M_str : Mth P w K mg base CX0 C "__str__" 1 (spStr C)) (M_contains : Mth P w K mg base CX0 C "__contains__" 3 (spCont C)) (CL : ClP P w K mg base C 3 (spCall C))
    (TB : TabB base mg c Pt) (hT : (Pt, lamN "law") ∈ tabs) (hu : ∀ p ∈ tabs, p.1 = Pt → p.2 = lamN "law") : FnG P w K mg base CX0 12 f (PySem.W.fnOf "law" "law" (defArgs s_law) (defBody s_law) (defScope s_law) .none kV doc pm an (.ref c) ct) ["script"] (spLaw K tabs) := by
  refine fnG_byC look code sc_law (fun vs H Q E h => ?_) (fun A outer s H vs Q E room guards h => ?_)
  · obtain ⟨p, ns, rfl, _⟩ := h
    rfl
  obtain ⟨t, d, r⟩ : ∃ t, PSs (cxOf CX0 P w K mg base ["script", "at", "feed", "even", "told", "moves", "rule", "five"] "law" (defScope s_law) f (.ref c) A outer s H E).nox (defBody s_law) t ∧ t { nx := fun _ H' => Q .non H', rt := Q } (start ["script", "at", "feed", "even", "told", "moves", "rule", "five"] vs) H := by
    have hr : Rm 11 (A.deeper (envOfC "law" (defScope s_law) s.heap.objs.size f (.ref c))) := ⟨room, guards⟩
    obtain ⟨p, ns, rfl, hp, hl, ht, k⟩ := h
    refine ⟨_, pss_cons (ps_for PassesOwn.never rfl (pi_range1 (by rfl) T.z_range (pa_cons (pb (call_max2 rfl) T.z_max (pa_cons pe_int (pa_cons (pb (call_min2 rfl) T.z_min (pa_cons pe_int (pa_cons (pb call_len3 T.z_len (pa_cons (pv 0) pa_nil)) pa_nil))) pa_nil))) pa_nil)) (pg_name (i := 1) sc_law.nd rfl (Or.inl rfl))
        (pss_cons (ps_set (i := 2) sc_law.nd rfl (.inl rfl) (pc C_feed hr (pa_cons (pv 0) (pa_cons (pv 1) pa_nil))))
        (pss_one (ps_if (PW.pt (pw_or (pt_not (pt_val (pc C_right hr (pa_cons (pv 2) pa_nil)))) (pw_or1 (pt_not (pt_val (pc C_made_right hr (pa_cons (pv 2) pa_nil)))))))
          (pss_one (ps_ret pe_bl))
          pss_nil))))
      (pss_cons (ps_set (i := 3) sc_law.nd rfl (.inl rfl) (pcm M_counting hr.rm pass0 (pe_glob (v := .ref C) (u := .ref C) rfl Z.gC rfl) (pa_cons pe_str (pa_cons pe_str (pa_cons pe_int (pa_cons pe_int pa_nil))))))
      (pss_cons (ps_set (i := 4) sc_law.nd rfl (.inl rfl) (pe_lstN (pa_cons (pe_clP CL hr.rm (pv 3) (pa_cons pe_str pa_nil)) (pa_cons (pe_cmpR (op_inM M_contains hr) pe_str (pv 3) (by rfl)) (pa_cons (pe_cmpR (op_inM M_contains hr) pe_str (pv 3) (by rfl)) (pa_cons (pe_cmpR (op_inM M_contains hr) pe_str (pv 3) (by rfl)) (pa_cons (pt (call_strM M_str hr) T.z_str (pa_cons (pv 3) pa_nil)) (pa_cons (pb (call_lenM M_len hr) T.z_len (pa_cons (pcm M_of_words hr.rm passX0 (pe_glob (v := .ref C) (u := .ref C) rfl Z.gC rfl) (pa_cons pe_str (pa_cons (pe_tup (pa_cons pe_str (pa_cons pe_str pa_nil))) pa_nil))) pa_nil)) pa_nil))))))))
      (pss_cons (ps_if (PW.pt (pw_or (pt_cmpR (op_neX hr.rm.units) (pv 4) (pe_lstN (pa_cons pe_bl (pa_cons pe_bl (pa_cons pe_bl (pa_cons pe_bl (pa_cons pe_str (pa_cons pe_int pa_nil))))))) (nomark _)) (pw_or1 (pt_cmpR op_ne (pe_gint G.g_MAX_STATES) pe_int (nomark _)))))
        (pss_one (ps_ret pe_bl))
        pss_nil)
      (pss_cons (ps_set (i := 5) sc_law.nd rfl (.inl rfl) (pe_disp (pps_cons pe_str pe_int pps_nil) rfl rfl (by simp) (by decide)))
      (pss_cons (ps_asg (pe_tup (pa_cons (StX.pe_makeR MK F_init (hr.rm.mono (by decide)) rfl Z.gC pass0 (pa_cons pe_str (pa_cons (pe_tup (pa_cons (pe_tup (pa_cons (pv 5) (pa_cons pe_bl pa_nil))) pa_nil)) pa_nil))) (pa_cons (pcm M_of_words hr.rm passX0 (pe_glob (v := .ref C) (u := .ref C) rfl Z.gC rfl) (pa_cons pe_str (pa_cons (pe_tup (pa_cons pe_str pa_nil)) pa_nil))) pa_nil))) (pg_tup rfl (pgs_cons (pg_name (i := 6) sc_law.nd rfl (Or.inl rfl)) (pgs_cons (pg_name (i := 7) sc_law.nd rfl (Or.inr rfl)) pgs_nil))))
      (pss_cons (ps_expr (pe_dclear (pv 5)))
      (pss_cons (ps_if (PW.pt (pw_or (pt_cmpR op_notBl (pe_clP CL hr.rm (pv 6) (pa_cons pe_str pa_nil)) pe_bl (nomark _)) (pw_or (pt_cmpR (op_neSts hr.rm.units) (pe_prP P_states Z.sc hr.rm (pv 6)) (pe_tup (pa_cons (pe_tup (pa_cons (pe_disp (pps_cons pe_str pe_int pps_nil) rfl rfl (by simp) (by decide)) (pa_cons pe_bl pa_nil))) pa_nil)) (nomark _)) (pw_or1 (pt_cmpR op_ne (pb (call_lenM M_len hr) T.z_len (pa_cons (pv 7) pa_nil)) pe_int (nomark _))))))
        (pss_one (ps_ret pe_bl))
        pss_nil)
      (pss_one (ps_ret (pe_cmpR op_eq (pe_made (k := 6) D_made T Y Z.sc P_states TB qual_cx hT hu rfl (hr.rm.mono (by decide)) (lamS_cx (by decide +kernel)) (fun A outer s H E f c' hr2 => pmP0 M_negated Z.sc hr2 (passes_call (takes_of rfl rfl rfl rfl) (fun _ _ _ _ h => h)) (pv 7))) pe_str (nomark _))))))))))), ?_⟩
    --BODY
    have hl' : (ns.map V.int).length = ns.length := List.length_map ..
    refine ⟨_, rfl, _, _, rfl, .inl ⟨p, rfl, .inl hp⟩, _, _, rfl, _, _, rfl, _, rfl, ?_, ?_, for_range (fun i σ H1 => ∃ v1 v2 : Option V, σ = [some (.ref p), v1, v2, none, none, none, none, none] ∧ SqL K H1 p (ns.map V.int) ∧ Tabs tabs H1) ?_ ?_ ?_⟩
    · split <;> split <;> omega
    · split <;> split <;> omega
    · exact ⟨none, none, rfl, hp, ht⟩
    · rintro i σ H1 hi ⟨v1, v2, rfl, g1, t1⟩
      have hi6 : i < 7 := by
        rw [hl'] at hi
        split at hi <;> split at hi <;> omega
      refine ⟨_, rfl, _, rfl, p, ns, 0 + (i : Int), rfl, g1, by omega, by omega, fun a H2 ha pa e2 => ?_⟩
      refine ⟨_, rfl, a, rfl, pa, t1.ext e2, fun H3 k3 p3 t3 => ⟨_, rfl, iteF ?_⟩⟩
      refine ⟨_, rfl, a, rfl, p3, t3, fun H4 k4 p4 t4 => ⟨_, rfl, iteF ?_⟩⟩
      exact ⟨_, _, rfl, sqL_keepN ha g1 e2 (k3.trans k4), t4⟩
    rintro σ H1 ⟨v1, v2, rfl, _, t1⟩
    have eab : ("ab" : Str) = SX.S [97, 98] := str_eq (by decide +kernel)
    have ea : ("a" : Str) = SX.S [97] := str_eq (by decide +kernel)
    have g2 : SgOk [97, 98] := ⟨by decide +kernel⟩
    have g1 : SgOk [97] := ⟨by decide +kernel⟩
    have okE : StsOk [97, 98] (countSts [97, 98] [97] 2 0) := countSts_ok (by decide) (by decide)
    refine ⟨rfl, [97, 98], [97], 2, 0, by rw [eab, ea]; rfl, g2, by decide, by decide, by decide, by decide, fun z H2 e2 nz ruz => ?_⟩
    have ruz' := ruz
    obtain ⟨dz, _, _, _, slz, _⟩ := ruz'
    generalize hE : countSts [97, 98] [97] 2 0 = sE at okE ruz slz
    have lE : sE.length = 2 := by rw [← hE]; rfl
    refine ⟨_, rfl, z, rfl, .inl ⟨dz, _, slz⟩, z, [97, 98], sE, "aba", rfl, ruz, okE, ⟨by decide +kernel, by decide +kernel⟩, by decide +kernel, fun H3 e3 => ?_⟩
    have tb : TOk "b" := ⟨by decide +kernel, by decide +kernel⟩
    have ta : TOk "a" := ⟨by decide +kernel, by decide +kernel⟩
    have tc : TOk "c" := ⟨by decide +kernel, by decide +kernel⟩
    rw [show keepsL sE (cps "aba") 0 = true by rw [← hE]; decide +kernel]
    refine ⟨_, rfl, z, dz, _, rfl, slt_mono slz e3, z, [97, 98], sE, .str "b", .str "b", rfl, ruz.le e3, okE, .str "b" tb, fun H4 e4 => ⟨_, rfl, ?_⟩⟩
    have f4 := e3.trans e4
    refine ⟨_, rfl, z, dz, _, rfl, slt_mono slz f4, z, [97, 98], sE, .str "a", .str "a", rfl, ruz.le f4, okE, .str "a" ta, fun H5 e5 => ⟨_, rfl, ?_⟩⟩
    have f5 := f4.trans e5
    refine ⟨_, rfl, z, dz, _, rfl, slt_mono slz f5, z, [97, 98], sE, .str "c", .str "c", rfl, ruz.le f5, okE, .str "c" tc, fun H6 e6 => ⟨_, rfl, ?_⟩⟩
    have f6 := f5.trans e6
    rw [show inRu sE [97, 98] (.str "b") = true by rw [← hE]; decide +kernel, show inRu sE [97, 98] (.str "a") = false by rw [← hE]; decide +kernel, show inRu sE [97, 98] (.str "c") = false by rw [← hE]; decide +kernel]
    refine ⟨_, rfl, z, dz, _, rfl, slt_mono slz f6, z, [97, 98], sE, rfl, ruz.le f6, okE.most, by decide, _, rfl, ?_⟩
    rw [show ruText sE.length [97, 98] = "rule of 2 states for ab" by rw [lE]; decide +kernel]
    have rl2 : (rowsOf [[97], [97, 98]]).length = 3 := by decide +kernel
    have ok2 : StsOk [97, 98] (wordSts [97, 98] [[97], [97, 98]]) := wordSts_ok (by omega)
    have ls2 : (wordSts [97, 98] [[97], [97, 98]]).length = 3 := by unfold wordSts; rw [List.length_map]; exact rl2
    refine ⟨rfl, by show 2 ≤ sizeLine; decide, fun T1 hT1 => ⟨T1, [97, 98], [[97], [97, 98]], by rw [eab], by rw [upd_same, eab, ea]; rfl, g2, wdOk_of g2 (by decide) (by decide), fun _ z2 H7 e7 nz2 ru2 => ?_, fun gt => absurd gt (by omega)⟩⟩
    have ru2' := ru2
    obtain ⟨dz2, _, _, _, slz2, _⟩ := ru2'
    refine ⟨z2, dz2, _, rfl, slz2, z2, [97, 98], _, rfl, ru2, ok2.most, _, rfl, by omega, ?_⟩
    rw [ls2]
    refine ⟨by show 6 ≤ sizeLine; decide, fun Lt hLt nLt => ?_⟩
    obtain ⟨b1, eb1⟩ : ∃ b : Bool, b = (if false = true then !true else true) := ⟨_, rfl⟩
    have kt : (upd H7 Lt (.lst [V.bl true, .bl (if false = true then !true else true), .bl (if false = true then !false else false), .bl (if false = true then !false else false), .str "rule of 2 states for ab", .int ((3 : Nat) : Int)])) Lt = some (.lst [V.bl true, .bl true, .bl false, .bl false, .str "rule of 2 states for ab", .int 3]) := upd_same
    have e8 : Same H7 (upd H7 Lt (.lst [V.bl true, .bl (if false = true then !true else true), .bl (if false = true then !false else false), .bl (if false = true then !false else false), .str "rule of 2 states for ab", .int ((3 : Nat) : Int)])) := same_new hLt
    have t8 := t1.ext (((((e2.trans f6).trans (same_new hT1)).trans e7)).trans e8)
    generalize upd H7 Lt (.lst [V.bl true, .bl (if false = true then !true else true), .bl (if false = true then !false else false), .bl (if false = true then !false else false), .str "rule of 2 states for ab", .int ((3 : Nat) : Int)]) = H8 at kt e8 t8
    have trt : TOk "rule of 2 states for ab" := ⟨by decide +kernel, by decide +kernel⟩
    have d3 : ∀ {G : Hp}, Dx G (.int 3) (.int 3) := .int _ (by decide +kernel) (by decide +kernel)
    refine ⟨_, rfl, by show 6 ≤ sizeLine; decide, fun Lu hLu nLu => ?_⟩
    have e9 := same_new (o := .lst [V.bl true, .bl true, .bl false, .bl false, .str "rule of 2 states for ab", .int 3]) hLu
    have ku : (upd H8 Lu (.lst [V.bl true, .bl true, .bl false, .bl false, .str "rule of 2 states for ab", .int 3])) Lu = some (.lst [V.bl true, .bl true, .bl false, .bl false, .str "rule of 2 states for ab", .int 3]) := upd_same
    have t9 := t8.ext e9
    generalize upd H8 Lu (.lst [V.bl true, .bl true, .bl false, .bl false, .str "rule of 2 states for ab", .int 3]) = H9 at ku e9 t9
    refine ⟨.list [.bool true, .bool true, .bool false, .bool false, .str "rule of 2 states for ab", .int 3], .list [.bool true, .bool true, .bool false, .bool false, .str "rule of 2 states for ab", .int 3],
      .lst (e9 _ _ kt) nLt (.cons (.bl _) (.cons (.bl _) (.cons (.bl _) (.cons (.bl _) (.cons (.str _ trt) (.cons d3 .nil)))))), .lst ku nLu (.cons (.bl _) (.cons (.bl _) (.cons (.bl _) (.cons (.bl _) (.cons (.str _ trt) (.cons d3 .nil)))))), by decide +kernel, by decide +kernel, _, rfl, ?_⟩
    rw [show PyData.eqv (.list [.bool true, .bool true, .bool false, .bool false, .str "rule of 2 states for ab", .int 3]) (.list [.bool true, .bool true, .bool false, .bool false, .str "rule of 2 states for ab", .int 3]) = true by decide +kernel]
    refine iteF ⟨rfl, _, rfl, iteF ?_⟩
    refine fun Dm hDm => ⟨upd_same, [(.inr "a", .int 0)], rfl, by decide, ?_⟩
    rw [L2.upd_upd, show mergeK [] [((.inr "a" : Key), V.int 0)] = kRow [(97, 0)] by rw [ea]; rfl]
    have e10 := same_new (o := .dK (kRow [(97, 0)])) hDm
    have kD : (upd H9 Dm (.dK (kRow [(97, 0)]))) Dm = some (.dK (kRow [(97, 0)])) := upd_same
    have t10 := t9.ext e10
    generalize upd H9 Dm (.dK (kRow [(97, 0)])) = H10 at kD t10
    refine ⟨_, rfl, by show 2 ≤ sizeLine; decide, fun U1 hU1 => ?_⟩
    have e11 := same_new (o := .tup [.ref Dm, .bl true]) hU1
    have kU1 : (upd H10 U1 (.tup [.ref Dm, .bl true])) U1 = some (.tup [.ref Dm, .bl true]) := upd_same
    generalize upd H10 U1 (.tup [.ref Dm, .bl true]) = H11 at e11 kU1
    refine ⟨by show 1 ≤ sizeLine; decide, fun U2 hU2 => ?_⟩
    have e12 := same_new (o := .tup [.ref U1]) hU2
    have kU2 : (upd H11 U2 (.tup [.ref U1])) U2 = some (.tup [.ref U1]) := upd_same
    generalize upd H11 U2 (.tup [.ref U1]) = H12 at e12 kU2
    have f12 := e11.trans e12
    have kD12 := f12 _ _ kD
    have ok1 : StsOk [97] [([(97, 0)], true)] := ⟨by decide, by decide, fun q hq => by rw [List.mem_singleton.mp hq]; exact ⟨by decide, by decide⟩⟩
    have st12 : StsT H12 U2 [([(97, 0)], true)] := ⟨[U1], kU2, .cons ⟨Dm, e12 _ _ kU1, kD12⟩ .nil⟩
    refine fun x dx hx hdx hne => ⟨x, dx, U2, [97], [([(97, 0)], true)], H12, by rw [ea], upd_same, hne, hx, hdx, mk_same hx hdx, st12, g1, ok1, fun H13 e13 run => ⟨rfl, ?_⟩⟩
    have rl5 : (rowsOf [[97, 97, 97, 97, 97]]).length = 6 := by decide +kernel
    have ok5 : StsOk [97] (wordSts [97] [[97, 97, 97, 97, 97]]) := wordSts_ok (by omega)
    have ls5 : (wordSts [97] [[97, 97, 97, 97, 97]]).length = 6 := by unfold wordSts; rw [List.length_map]; exact rl5
    have e5a : ("aaaaa" : Str) = SX.S [97, 97, 97, 97, 97] := str_eq (by decide +kernel)
    refine ⟨rfl, by show 1 ≤ sizeLine; decide, fun T3 hT3 => ⟨T3, [97], [[97, 97, 97, 97, 97]], by rw [ea], by rw [upd_same, e5a]; rfl, g1, ⟨by decide, by decide, fun u hu => ?_, by decide +kernel⟩, fun _ z5 H14 e14 nz5 ru5 => ?_, fun gt => absurd gt (by omega)⟩⟩
    · rw [List.mem_singleton.mp hu]
      exact ⟨by decide +kernel, by decide +kernel⟩
    have ru5' := ru5
    obtain ⟨dz5, _, _, _, slz5, _⟩ := ru5'
    refine ⟨by show 2 ≤ sizeLine; decide, fun T4 hT4 => ?_⟩
    refine ⟨T4, _, rfl, SqT.of upd_same, rfl, _, _, rfl, _, _, rfl, rfl, ?_⟩
    dsimp only
    have e1415 : Same H14 (upd H14 T4 (.tup [.ref x, .ref z5])) := same_new hT4
    generalize upd H14 T4 (.tup [.ref x, .ref z5]) = H15 at e1415
    have e1315 := ((same_new hT3).trans e14).trans e1415
    have kD15 := e1315 _ _ (e13 _ _ kD12)
    have t15 := t10.ext ((f12.trans e13).trans e1315)
    refine ⟨_, rfl, .inr (.inr (.inl ⟨rfl, .inl ⟨_, kD15⟩⟩)), Dm, _, rfl, rfl, kD15, ?_⟩
    have rux := runN_clear run kD12 e1315 kD15
    have ru5c := ru_clear (ru5.le e1415) kD15 (by decide +kernel)
    have t16 := tabs_mutK (kw := []) t15 kD15
    generalize upd H15 Dm (.dK []) = H16 at rux ru5c t16
    have rux' := rux
    obtain ⟨dxx, _, _, _, slx, _⟩ := rux'
    have ru5d := ru5c
    obtain ⟨dz6, _, _, _, sl5, _⟩ := ru5d
    refine ⟨_, rfl, x, rfl, .inl ⟨dxx, _, slx⟩, x, [97], [([(97, 0)], true)], "aa", rfl, rux, ok1, ⟨by decide +kernel, by decide +kernel⟩, by decide +kernel, fun H17 e17 => ?_⟩
    rw [show keepsL [([(97, 0)], true)] (cps "aa") 0 = true by decide +kernel]
    refine ⟨true, true, rfl, rfl, _, rfl, iteF ?_⟩
    refine ⟨_, rfl, x, dxx, _, rfl, slt_mono slx e17, x, [97], _, rfl, rux.le e17, ok1.most, fun ts H18 e18 sn => ?_⟩
    refine fun D2 hD2 => ⟨upd_same, [(.inr "a", .int 0)], rfl, by decide, ?_⟩
    rw [L2.upd_upd, show mergeK [] [((.inr "a" : Key), V.int 0)] = kRow [(97, 0)] by rw [ea]; rfl]
    have e19 := same_new (o := .dK (kRow [(97, 0)])) hD2
    have kD2 : (upd H18 D2 (.dK (kRow [(97, 0)]))) D2 = some (.dK (kRow [(97, 0)])) := upd_same
    generalize upd H18 D2 (.dK (kRow [(97, 0)])) = H19 at e19 kD2
    refine ⟨by show 2 ≤ sizeLine; decide, fun V1 hV1 => ?_⟩
    have e20 := same_new (o := .tup [.ref D2, .bl true]) hV1
    have kV1 : (upd H19 V1 (.tup [.ref D2, .bl true])) V1 = some (.tup [.ref D2, .bl true]) := upd_same
    generalize upd H19 V1 (.tup [.ref D2, .bl true]) = H20 at e20 kV1
    refine ⟨by show 1 ≤ sizeLine; decide, fun V2 hV2 => ?_⟩
    have e21 := same_new (o := .tup [.ref V1]) hV2
    have kV2 : (upd H20 V2 (.tup [.ref V1])) V2 = some (.tup [.ref V1]) := upd_same
    generalize upd H20 V2 (.tup [.ref V1]) = H21 at e21 kV2
    have e1821 := (e19.trans e20).trans e21
    have sb : ∀ q ∈ ([([(97, 0)], true)] : Sts), (q.1.map (·.1)).Sublist [97] := fun q hq => (ok1.rows q hq).sub
    refine ⟨ts, V2, _, _, [97], rfl, rfl, sn.sts.le e1821, ⟨[V1], kV2, .cons ⟨D2, e21 _ _ kV1, e21 _ _ (e20 _ _ kD2)⟩ .nil⟩, by decide, sb, sb, _, rfl, ?_⟩
    rw [decide_eq_true (rfl : ([([(97, 0)], true)] : Sts) = [([(97, 0)], true)])]
    refine iteF ?_
    have e1621 := (e17.trans e18).trans e1821
    refine ⟨_, rfl, z5, dz6, _, rfl, slt_mono sl5 e1621, z5, [97], _, rfl, ru5c.le e1621, ok5.most, _, rfl, by omega, rfl, _, rfl, ?_⟩
    rw [ls5]
    refine iteF ?_
    have t21 := t16.ext e1621
    refine made_ok (sg := [97]) (r := none) t21 (fun H22 E5 Q5 e22 good bad => ?_) (fun v H23 e23 t23 mv => ?_)
    · have q1 := ruAt_n e22 (ru5c.le e1621)
      have q1' := q1
      obtain ⟨dw, _, _, _, slw, _⟩ := q1'
      exact ⟨_, rfl, z5, dw, _, rfl, slw, z5, [97], _, rfl, q1, g1, ok5, fun le => absurd le (by decide +kernel), fun _ => bad rfl⟩
    cases mv
    refine ⟨rfl, ?_⟩
    rw [decide_eq_true rfl]
    exact k _
  exact ⟨t, d.nox, r⟩
end
end Fs
namespace Fs
open PySem PySem.Spec PyProof.Rows L2 SlX RZ
open LamX (TabB)
/-! ### the law's call where defs hold tables of code objects -/
section
variable {P : Program} {w : World} {K : PySem.W.Frag} {mg mb : Str → Option Value} {CX : CXT} {k : Nat} {fa a : Addr} {cs : List (Addr × Addr)} {fd : FuncData} {x : Str} {sp : Sp} {s1 : Shared} {vs : List Value} {ns : List Int}
/-- the abstract heap at the start: at most the script, and the tables -/
structure Start (cs : List (Addr × Addr)) (a : Addr) (H : Hp) : Prop where
  tab : ∀ p ∈ cs, H p.2 = some (.tbl #[])
  kind : ∀ b, H b = none ∨ b ∈ cs.map (·.2) ∨ ∃ o ys, H b = some (.frz o (.lst ys))
  only : ∀ b, H b ≠ none → b = a ∨ b ∈ cs.map (·.2)
theorem begin_tabs (inK : K.In s1.heap) (n1 : s1.heap.Ns mainGlobals mg) (n2 : s1.heap.Ns builtinsNs mb) (n3 : ∀ y : Str, y ≠ "__name__" → mb y = bootBuiltins y) (lim : s1.heap.NoLimit) (gens : s1.gens = #[])
    (empty : ∀ p ∈ cs, s1.heap.get? p.2 = some { cls := .none, data := .fields #[] }) (offK : ∀ p ∈ cs, K.lookup p.2 = none) (heads : ∀ p ∈ cs, PySem.W.CodeHd s1.heap p.1 p.2)
    (bmod : ∃ (bm : Addr) (ob : Obj), mg "__builtins__" = some (.ref bm) ∧ bm ≠ builtinsNs ∧ s1.heap.get? bm = some ob ∧ ob.cls = .type "module" ∧ ob.dict = some builtinsNs ∧ ob.data = .plain)
    (obj : s1.heap.get? a = some { cls := .type "list", data := .seq vs.toArray }) (room : Room k callerA)
    (F : ∀ base : Heap, K.In base → base.Ns mainGlobals mg → (∀ p ∈ cs, TabB base mg p.1 p.2) → FnG P w K mg base CX k fa fd [x] sp) (bind : ∀ (s : Shared) (u : Value), BindsTo s fd ⟨[u], []⟩ [(x, u)])
    (H : Hp) (S : Start cs a H) (want : sp [.ref a] H (fun v _ => v = .bl true) fun _ _ _ => False) (hok : HOk P w H s1.heap) (own : H a ≠ none → K.lookup a = none)
    (exc : ∀ e s', CX [] H s1 (fun _ _ _ => False) e s' → False) :
    codeAny (model P w) callerA (.call (.ref fa) ⟨[.ref a], []⟩) (fun r s' => r = .ok (.ret (.bool true)) ∧ OldK s1.heap s'.heap ∧ s'.os = s1.os ∧ AllBare s'.gens) s1 := by
  have isTab : ∀ b, b ∈ cs.map (·.2) → s1.heap.get? b = some { cls := .none, data := .fields #[] } ∧ K.lookup b = none := fun b hb => by
    obtain ⟨p, hp, rfl⟩ := List.mem_map.mp hb
    exact ⟨empty p hp, offK p hp⟩
  -- what is no list and no empty table is not known
  have unknown : ∀ {b : Addr} {o : Obj}, s1.heap.get? b = some o → (∀ us n, o.data ≠ .seq us n) → o.data ≠ .fields #[] → H b = none := by
    intro b o e d1 d2
    cases hb : H b with
    | none => rfl
    | some u =>
      exfalso
      rcases S.only b (by rw [hb]; exact fun z => nomatch z) with z | z
      · rw [z, obj] at e
        cases e
        exact d1 _ _ rfl
      · rw [(isTab b z).1] at e
        cases e
        exact d2 rfl
  have seen : ∀ {b : Addr} {o : Obj}, s1.heap.get? b = some o → (∀ us n, o.data ≠ .seq us n) → o.data ≠ .fields #[] → (hidT s1.heap H).get? b = some o := fun e d1 d2 => hidT_get e (unknown e d1 d2)
  have seenNs : ∀ {b : Addr} {m : Str → Option Value}, s1.heap.Ns b m → (hidT s1.heap H).Ns b m := by
    rintro b m ⟨o, es, ep, e, d, r⟩
    exact ⟨o, es, ep, seen e (fun us n z => by rw [d] at z; cases z) (fun z => by rw [d] at z; cases z), d, r⟩
  have inB : K.In (hidT s1.heap H) := by
    intro b o e
    refine hidT_get (inK b o e) ?_
    cases hb : H b with
    | none => rfl
    | some u =>
      exfalso
      have hn : H b ≠ none := by rw [hb]; exact fun z => nomatch z
      rcases S.only b hn with z | z
      · rw [z] at e hn
        rw [own hn] at e
        cases e
      · rw [(isTab b z).2] at e
        cases e
  have md : Mod K mg (hidT s1.heap H) := by
    obtain ⟨mc, h1, h2⟩ := lim
    exact ⟨inB, seenNs n1, ⟨mb, seenNs n2, n3⟩, ⟨mc, seenNs h1, h2⟩⟩
  have noG : ∀ {b : Addr} {o : Obj}, s1.heap.get? b = some o → (∀ es ep, o.data ≠ .dict es ep) → b ≠ mainGlobals := by
    intro b o e d z
    obtain ⟨o2, es, ep, e2, d2, _⟩ := n1
    rw [z, e2] at e
    cases e
    exact d _ _ d2
  have TB : ∀ p ∈ cs, TabB (hidT s1.heap H) mg p.1 p.2 := by
    intro p hp
    refine ⟨?_, ?_, (noG (empty p hp) (fun _ _ z => nomatch z)).symm⟩
    · obtain ⟨o, us, fl, tf, g1, g2, g3, g4, g5, e, c1, c2, c3, c4⟩ := heads p hp
      refine ⟨o, us, fl, tf, g1, g2, g3, g4, g5, seen e (fun us n z => by rw [c2] at z; cases z) (fun z => ?_), c1, c2, c3, c4⟩
      rw [c2] at z
      cases z
      simp at c3
    · obtain ⟨bm, ob, q1, q2, q3, q4, q5, q6⟩ := bmod
      refine ⟨bm, ob, q1, q2, noG q3 (fun _ _ z => by rw [q6] at z; cases z), fun z => ?_, seen q3 (fun us n z => by rw [q6] at z; cases z) (fun z => by rw [q6] at z; cases z), q4, q5, q6⟩
      rw [z, empty p hp] at q3
      cases q3
      cases q6
  have e0 : Env0 P w K mg (hidT s1.heap H) callerA [] s1 H := ⟨rfl, md, fun _ _ e => of_hidT e, Nat.le_of_eq (hidT_size _ _), trivial, (fun _ hb => nomatch hb), hok, .of_eq gens⟩
  have run := (F _ inB (seenNs n1) TB).goes callerA [] s1 H ⟨[.ref a], []⟩ [.ref a] [.ref a] _ _ room rfl e0 (bind s1 (.ref a)) (.cons rfl .nil) want
  refine codeAny_mono run ?_
  intro r s' h
  match r, h with
  | .error e, h => exact (exc e s' h).elim
  | .ok .next, h => exact h.elim
  | .ok .brk, h => exact h.elim
  | .ok .cont, h => exact h.elim
  | .ok (.ret u), h =>
    obtain ⟨v, H', os, bare, un, hok', rel, q⟩ := h
    have q : v = .bl true := q
    subst q
    obtain rfl : u = Value.bool true := rel
    have stays : ∀ b o, b ∉ cs.map (·.2) → s1.heap.get? b = some o → s'.heap.get? b = some o := by
      intro b o nb e
      rcases S.kind b with z | z | ⟨ob, ys, z⟩
      · exact un.keep b o e z (fun c => nomatch c) (fun c => nomatch c)
      · exact absurd z nb
      · have g1 := (hok b _ z).1
        have g2 := (hok' b _ (un.frzs b ob _ z)).1
        rw [e] at g1
        cases g1
        exact g2
    have grows : ∀ p ∈ cs, ∃ more : Array Value, s'.heap.get? p.2 = some { cls := .none, data := .fields (#[] ++ more) } := by
      intro p hp
      obtain ⟨more, z⟩ := un.tbls p.2 #[] (S.tab p hp)
      exact ⟨more, hok' p.2 _ z⟩
    refine ⟨rfl, ⟨fun b o e => ?_, fun b o e => ?_⟩, os, bare⟩
    · by_cases hb : b ∈ cs.map (·.2)
      · obtain ⟨p, hp, rfl⟩ := List.mem_map.mp hb
        obtain ⟨more, hm⟩ := grows p hp
        rw [empty p hp] at e
        cases e
        exact .inr (.inl ⟨((heads p hp).tab (empty p hp)).isCodeTable, rfl, #[], more, rfl, hm⟩)
      · exact .inl (stays b o hb e)
    · by_cases hb : b ∈ cs.map (·.2)
      · obtain ⟨p, hp, rfl⟩ := List.mem_map.mp hb
        obtain ⟨more, hm⟩ := grows p hp
        exact ⟨_, hm⟩
      · exact ⟨o, stays b o hb e⟩
open Classical in
theorem begin_gT (inK : K.In s1.heap) (n1 : s1.heap.Ns mainGlobals mg) (n2 : s1.heap.Ns builtinsNs mb) (n3 : ∀ y : Str, y ≠ "__name__" → mb y = bootBuiltins y) (lim : s1.heap.NoLimit) (gens : s1.gens = #[])
    (empty : ∀ p ∈ cs, s1.heap.get? p.2 = some { cls := .none, data := .fields #[] }) (offK : ∀ p ∈ cs, K.lookup p.2 = none) (heads : ∀ p ∈ cs, PySem.W.CodeHd s1.heap p.1 p.2)
    (bmod : ∃ (bm : Addr) (ob : Obj), mg "__builtins__" = some (.ref bm) ∧ bm ≠ builtinsNs ∧ s1.heap.get? bm = some ob ∧ ob.cls = .type "module" ∧ ob.dict = some builtinsNs ∧ ob.data = .plain)
    (obj : s1.heap.get? a = some { cls := .type "list", data := .seq vs.toArray }) (itv : IntsAre vs ns) (len : ns.length ≤ sizeLine) (room : Room k callerA)
    (F : ∀ base : Heap, K.In base → base.Ns mainGlobals mg → (∀ p ∈ cs, TabB base mg p.1 p.2) → FnG P w K mg base CX k fa fd [x] sp) (bind : ∀ (s : Shared) (u : Value), BindsTo s fd ⟨[u], []⟩ [(x, u)])
    (want : ∀ H : Hp, (∀ p ∈ cs, H p.2 = some (.tbl #[])) → SqL K H a (ns.map V.int) → sp [.ref a] H (fun v _ => v = .bl true) fun _ _ _ => False) (exc : ∀ H e s', CX [] H s1 (fun _ _ _ => False) e s' → False) :
    codeAny (model P w) callerA (.call (.ref fa) ⟨[.ref a], []⟩) (fun r s' => r = .ok (.ret (.bool true)) ∧ OldK s1.heap s'.heap ∧ s'.os = s1.os ∧ AllBare s'.gens) s1 := by
  have rel := ints_vals itv
  have sz : (ns.map V.int).length ≤ sizeLine := by rw [List.length_map]; exact len
  have offT : a ∉ cs.map (·.2) := fun z => by
    obtain ⟨p, hp, e⟩ := List.mem_map.mp z
    have := empty p hp
    rw [e, obj] at this
    cases this
  have tabAt : ∀ b, b ∈ cs.map (·.2) → s1.heap.get? b = some { cls := .none, data := .fields #[] } := fun b hb => by
    obtain ⟨p, hp, rfl⟩ := List.mem_map.mp hb
    exact empty p hp
  let T0 : Hp := fun b => if b ∈ cs.map (·.2) then some (.tbl #[]) else none
  have t1 : ∀ b, b ∈ cs.map (·.2) → T0 b = some (.tbl #[]) := fun b hb => if_pos hb
  have t2 : ∀ b, b ∉ cs.map (·.2) → T0 b = none := fun b hb => if_neg hb
  have memT : ∀ p ∈ cs, p.2 ∈ cs.map (·.2) := fun p hp => List.mem_map.mpr ⟨p, hp, rfl⟩
  have okT : HOk P w T0 s1.heap := fun b u hu => by
    by_cases hb : b ∈ cs.map (·.2)
    · rw [t1 b hb] at hu
      cases hu
      exact tabAt b hb
    · rw [t2 b hb] at hu
      cases hu
  by_cases hk : ∃ o, K.lookup a = some o
  · obtain ⟨o, hk⟩ := hk
    have eo := (inK a o hk).symm.trans obj
    cases eo
    have S : Start cs a T0 := by
      refine ⟨fun p hp => t1 _ (memT p hp), fun b => ?_, fun b hb => ?_⟩
      · by_cases h : b ∈ cs.map (·.2)
        · exact .inr (.inl h)
        · exact .inl (t2 b h)
      · by_cases h : b ∈ cs.map (·.2)
        · exact .inr h
        · exact absurd (t2 b h) hb
    exact begin_tabs inK n1 n2 n3 lim gens empty offK heads bmod obj room F bind T0 S (want _ S.tab (Or.inr ⟨_, vs.toArray, _, hk, rfl, rfl, rfl, by rw [List.size_toArray, itv.length]; exact len, by simpa using rel⟩)) okT (fun z => absurd (t2 a offT) z) (exc _)
  · have hk' : K.lookup a = none := by
      cases q : K.lookup a with
      | none => rfl
      | some o => exact (hk ⟨o, q⟩).elim
    have u1 : (upd T0 a (.frz { cls := .type "list", data := .seq vs.toArray } (.lst (ns.map V.int)))) a = some (.frz { cls := .type "list", data := .seq vs.toArray } (.lst (ns.map V.int))) := upd_same
    have u2 : ∀ b, b ≠ a → (upd T0 a (.frz { cls := .type "list", data := .seq vs.toArray } (.lst (ns.map V.int)))) b = T0 b := fun b hb => upd_ne hb
    generalize upd T0 a (.frz { cls := .type "list", data := .seq vs.toArray } (.lst (ns.map V.int))) = H0 at u1 u2
    have S : Start cs a H0 := by
      refine ⟨fun p hp => ?_, fun b => ?_, fun b hb => ?_⟩
      · rw [u2 _ (fun z => offT (by rw [← z]; exact memT p hp))]
        exact t1 _ (memT p hp)
      · by_cases e : b = a
        · exact .inr (.inr ⟨_, _, by rw [e]; exact u1⟩)
        · by_cases h : b ∈ cs.map (·.2)
          · exact .inr (.inl h)
          · exact .inl (by rw [u2 b e]; exact t2 b h)
      · by_cases e : b = a
        · exact .inl e
        · by_cases h : b ∈ cs.map (·.2)
          · exact .inr h
          · exact absurd (by rw [u2 b e]; exact t2 b h) hb
    refine begin_tabs inK n1 n2 n3 lim gens empty offK heads bmod obj room F bind H0 S (want _ S.tab (Or.inl (Or.inr ⟨_, u1⟩))) (fun b u hb => ?_) (fun _ => hk') (exc _)
    by_cases e : b = a
    · subst e
      rw [u1] at hb
      cases hb
      exact ⟨obj, sz, vs, _, rel, obj⟩
    · rw [u2 b e] at hb
      by_cases hb2 : b ∈ cs.map (·.2)
      · rw [t1 b hb2] at hb
        cases hb
        exact tabAt b hb2
      · rw [t2 b hb2] at hb
        cases hb
end
/-- K knows no table -/
theorem noTab_of {K : PySem.W.Frag} {h : Heap} {Q : Addr} (inK : K.In h) (nt : PySem.W.noTabs K = true) (e : h.get? Q = some (PySem.W.tabObj #[])) : K.lookup Q = none := by
  cases q : K.lookup Q with
  | none => rfl
  | some o =>
    have e2 := inK _ _ q
    rw [e] at e2
    cases e2
    have h2 := List.all_eq_true.mp nt _ (PySem.W.mem_of_lookupK q)
    exact absurd (show false = true from h2) Bool.false_ne_true
/-- what the head tells of the law -/
def LawG (l : PySem.W.OpenLaw) (w : World) (K : PySem.W.Frag) (k n : Nat) (x : Str) (mg : Str → Option Value) (fa : Addr) (h : Heap) : Prop :=
  ∃ (fd : FuncData) (cs : List (Addr × Addr)) (sp : Sp), (∀ p ∈ cs, h.get? p.2 = some { cls := .none, data := .fields #[] }) ∧ (∀ p ∈ cs, K.lookup p.2 = none) ∧ (∀ p ∈ cs, PySem.W.CodeHd h p.1 p.2) ∧ (∀ (s : Shared) (u : Value), BindsTo s fd ⟨[u], []⟩ [(x, u)]) ∧
    (∀ (H : Hp) (a : Addr) (ns : List Int), ns.length ≤ n → (∀ p ∈ cs, H p.2 = some (.tbl #[])) → SqL K H a (ns.map V.int) → sp [.ref a] H (fun v _ => v = .bl true) fun _ _ _ => False) ∧
    ∀ base : Heap, K.In base → base.Ns mainGlobals mg → (∀ p ∈ cs, TabB base mg p.1 p.2) → FnG l.prog w K mg base CX0 k fa fd [x] sp
theorem walk_gT {l : PySem.W.OpenLaw} {n k : Nat} {q : Program} {loose : List Str} {XP : (Str → Option Value) → Heap → Prop} {YP : World → Heap → Prop} {d : DefRec} {K : Params → PySem.W.Frag} {x : Str}
    (h1 : l.most = some n) (h2 : n ≤ sizeLine) (h3 : d.params.defaults = []) (room : Room k callerA) (inK : ∀ (w : World) (h : Heap), YP w h → (K w.params).In h)
    (F : ∀ (w : World) (mg : Str → Option Value) (fa : Addr) (h : Heap), (K w.params).In h → h.Ns mainGlobals mg → mg d.name = some (.ref fa) →
      (∀ (y : Str) (c Q : Addr), ((recsOf q).any fun e => e.name == y) = true → PySem.W.tabIn (K w.params) y = some (c, Q) → PySem.W.CodeHd h c Q ∧ h.get? Q = some (PySem.W.tabObj #[])) → LawG l w (K w.params) k n x mg fa h) :
    PySem.W.WalkO q loose XP YP l.row.toRowW d [] (fun f vs => PySem.call f vs) := by
  apply Att.attach_call h1 h3
  intro w s₀ s₁ mg mb fa o pm cd doc a vs ns G Y _ _ _ hmg obj itv len gens
  have inH := inK w _ Y
  obtain ⟨fd, cs, sp, c1, c2, c3, c4, c5, c6⟩ := F w mg fa _ inH G.T.g hmg fun y c Q hy ht => by
    obtain ⟨dy, hm, hn⟩ := List.any_eq_true.mp hy
    cases hf : (recsOf q).find? (fun e => e.name == y) with
    | none => exact absurd hn (by have := List.find?_eq_none.mp hf dy hm; simpa using this)
    | some d2 => exact PySem.W.tab_of G.T inH hf ht
  exact begin_gT inH G.T.g G.T.b G.T.builtins G.T.nolimit gens c1 c2 c3 G.T.bmain obj itv (Nat.le_trans len h2) room c6 c4 (fun H e1 e2 => c5 H a ns len e1 e2) (fun H e s' c => c)
end Fs
namespace Fs
open PySem PySem.Spec PyProof.Rows L2 SlX RZ
open LamX (TabB Tabs TabS)
/-! ### the head's facts -/
section
variable {K : PySem.W.Frag} {mg : Str → Option Value}
theorem fn_cls {g : Addr} (h : PySem.W.isFn K (.ref g) = true) : ∃ og, K.lookup g = some og ∧ og.cls = .type "function" := by
  unfold PySem.W.isFn PySem.W.typeIn at h
  obtain ⟨o, ho, hc⟩ := Option.map_eq_some_iff.mp (eq_of_beq h)
  exact ⟨o, ho, hc⟩
theorem kit_self {C : Addr} : PySem.W.kitOne K (.ref C) (.ref C) = some true := by
  unfold PySem.W.kitOne
  rw [if_pos (beq_self_eq_true _)]
theorem kit_tup {C : Addr} (h2 : PySem.W.isClsIn K C = true) (h3 : PySem.W.typeIn K (.ref C) = some (.type "type")) (h4 : PySem.W.subIn K (.type "tuple") (.ref C) = some false) : PySem.W.kitOne K (.type "tuple") (.ref C) = some false := by
  have h5 : (PySem.W.clsIn K C).isSome = true := h2
  have e1 : ((Value.type "tuple") == (Value.ref C)) = false := rfl
  have e2 : ((PySem.W.clsIn K C).isSome && PySem.W.typeIn K (.ref C) == some (.type "type")) = true := by rw [h5, h3]; rfl
  unfold PySem.W.kitOne
  rw [e1, if_neg Bool.false_ne_true]
  show (if ((PySem.W.clsIn K C).isSome && PySem.W.typeIn K (.ref C) == some (.type "type")) = true then PySem.W.subIn K (.type "tuple") (.ref C) else none) = some false
  rw [if_pos e2, h4]
theorem exm_self {S : Addr} (h1 : PySem.W.subIn K (.ref S) (.type "BaseException") = some true) (h2 : PySem.W.isClsIn K S = true) (h3 : PySem.W.typeIn K (.ref S) = some (.type "type")) (h4 : PySem.W.subIn K (.ref S) (.ref S) = some true) : PySem.W.exmOne K (.ref S) (.ref S) = some true := by
  have e1 : (PySem.W.subIn K (.ref S) (.type "BaseException") == some true) = true := by rw [h1]; rfl
  have e2 : ((PySem.W.clsIn K S).isSome && PySem.W.typeIn K (.ref S) == some (.type "type")) = true := by
    have h5 : (PySem.W.clsIn K S).isSome = true := h2
    rw [h5, h3]; rfl
  show (if (PySem.W.subIn K (.ref S) (.type "BaseException") == some true) = true then (if ((PySem.W.clsIn K S).isSome && PySem.W.typeIn K (.ref S) == some (.type "type")) = true then PySem.W.subIn K (.ref S) (.ref S) else none) else none) = some true
  rw [if_pos e1, if_pos e2, h4]
/-- a def with a last default None -/
theorem dfd_mk {x : Str} {st : Stmt} {f T : Addr} {oc ocT : Value} {od odT an : Option Addr} {osl slT : Array (Option Value)} {n : Nat} {kV doc pm cdv ct : Value} {a b c : Str} (hm : mg x = some (.ref f))
    (l : K.lookup f = some ⟨oc, od, .func (PySem.W.fnOf x x (defArgs st) (defBody st) (defScope st) (.ref T) kV doc pm an cdv ct), osl⟩) (lT : K.lookup T = some ⟨ocT, odT, .seq #[.none] n, slT⟩)
    (hc : PySem.W.codeIn K cdv x = true) (hk : PySem.W.keepIn K (.ref f) = true)
    (h3 : ∀ (T : Addr) (kV doc pm : Value) (an : Option Addr) (cdv ct : Value) (us its : List Value), us.length = 3 → its.length = 1 →
      ∃ k, bindArgs (PySem.W.fnOf x x (defArgs st) (defBody st) (defScope st) (.ref T) kV doc pm an cdv ct) ⟨us, []⟩ = seqItems? (.ref T) >>= k ∧ k (some its.toArray) = pure ([a, b, c].zip (us ++ its.drop 1)))
    (h2 : ∀ (T : Addr) (kV doc pm : Value) (an : Option Addr) (cdv ct : Value) (us its : List Value), us.length = 2 → its.length = 1 →
      ∃ k, bindArgs (PySem.W.fnOf x x (defArgs st) (defBody st) (defScope st) (.ref T) kV doc pm an cdv ct) ⟨us, []⟩ = seqItems? (.ref T) >>= k ∧ k (some its.toArray) = pure ([a, b, c].zip (us ++ its.drop 0))) :
    DfD K mg x st [a, b, c] := by
  have F : FunD K x x (defArgs st) (defBody st) (defScope st) [.non] [] f _ := ⟨⟨oc, od, .ref T, kV, doc, pm, an, cdv, ct, osl, rfl, l, hc, .inr ⟨by simp, T, _, [.none], n, rfl, lT, rfl, .cons rfl .nil⟩, .inl rfl⟩, hk⟩
  obtain ⟨d3, r3, b3⟩ := F.binds1 (ps := [a, b, c]) 3 1 (by simp) rfl h3
  obtain ⟨d2, r2, b2⟩ := F.binds1 (ps := [a, b, c]) 2 0 (by simp) rfl h2
  have e3 : d3 = [] := by
    cases r3
    rfl
  have e2 : d2 = [Value.none] := by
    cases r2 with
    | cons r t =>
      cases t
      have r : RelV V.non _ := r
      cases r
      rfl
  rw [e3] at b3
  rw [e2] at b2
  exact ⟨f, _, F, hm, b3, b2⟩
/-- a def whose code object is known: its table -/
theorem tab_mk {x qual : Str} {st : Stmt} {f c Q : Addr} {oc occ kV doc pm ct : Value} {od an odc : Option Addr} {osl slc : Array (Option Value)} {us : Array Value} (ha : PySem.W.nsIn K mainGlobals x = some (some (.ref f)))
    (l : K.lookup f = some ⟨oc, od, .func (PySem.W.fnOf x qual (defArgs st) (defBody st) (defScope st) .none kV doc pm an (.ref c) ct), osl⟩) (lc : K.lookup c = some ⟨occ, odc, .fields us, slc⟩) (hu : us[11]? = some (.ref Q)) : PySem.W.tabIn K x = some (c, Q) := by
  unfold PySem.W.tabIn
  rw [ha]
  dsimp only
  rw [l]
  dsimp only [PySem.W.fnOf]
  rw [lc]
  dsimp only
  rw [hu]
theorem supB : SupB (inClass (top 5) 0) "self" "limit" "limit" :=
  ⟨⟨_, _, _, _, _, _, _, _, _, _, _, _, rfl, ⟨_, fun _ => rfl⟩, fun _ => rfl, fun _ => rfl⟩, ⟨_, rfl, rfl⟩, rfl, rfl, rfl, by decide +kernel, rfl, rfl, rfl, rfl, by decide, by decide, by decide⟩
end
/-- the tables at the start -/
theorem tabs_start {H : Hp} {cs : List (Addr × Addr)} {qs : List Str} (h : ∀ p ∈ cs, H p.2 = some (.tbl #[])) : Tabs (((cs.map (·.2)).zip qs)) H := by
  intro p hp
  obtain ⟨q, hq, e⟩ := List.mem_map.mp (List.of_mem_zip hp).1
  rw [← e]
  exact TabS.nil (h q hq)
end Fs
namespace Fs
open PySem PySem.Spec PyProof.Rows L2 SlX RZ
open LamX (TabB Tabs TabS)
theorem all_mk {l : PySem.W.OpenLaw} {q : Program} {w : World} {K : PySem.W.Frag} {h : Heap} {mg : Str → Option Value} {fa : Addr} (X : K.In h) (G : h.Ns mainGlobals mg) (hfa : mg "law" = some (.ref fa))
    (HH : ∀ (y : Str) (c Q : Addr), ((recsOf q).any fun e => e.name == y) = true → PySem.W.tabIn K y = some (c, Q) → PySem.W.CodeHd h c Q ∧ h.get? Q = some (PySem.W.tabObj #[])) (nt : PySem.W.noTabs K = true)
    {f_feed f_take f_pick f_states f_keeps f_words f_is_told f_met f_turned f_made f_right f_p_int f_p_signs f_p_state f_p_states f_p_req f_p_lim f_p_mm f_p_mt f_p_tm f_p_tt f_p_table f_p_rule f_p_like f_both_right c_o_both_right Q_both_right f_made_right c_o_made_right Q_made_right f_law c_o_law Q_law C NC TM p0 p1 p2 q0 f_pr_signs q1 f_pr_states cm0 f_c_of_words cm1 f_c_counting f_init f_m_is_kept_by f_m_call f_m_contains f_m_and f_m_or f_m_negated f_m_eq f_m_len f_m_str f_p_word T_p_word f_ti cd_ti cc_ti : Addr}
    {od_feed : Option Addr} {an_feed : Option Addr} {sl_feed : Array (Option Value)} {oc_feed kv_feed dc_feed pm_feed cd_feed ct_feed : Value} {od_take : Option Addr} {an_take : Option Addr} {sl_take : Array (Option Value)} {oc_take kv_take dc_take pm_take cd_take ct_take : Value}
    {od_pick : Option Addr} {an_pick : Option Addr} {sl_pick : Array (Option Value)} {oc_pick kv_pick dc_pick pm_pick cd_pick ct_pick : Value} {od_states : Option Addr} {an_states : Option Addr} {sl_states : Array (Option Value)} {oc_states kv_states dc_states pm_states cd_states ct_states : Value}
    {od_keeps : Option Addr} {an_keeps : Option Addr} {sl_keeps : Array (Option Value)} {oc_keeps kv_keeps dc_keeps pm_keeps cd_keeps ct_keeps : Value} {od_words : Option Addr} {an_words : Option Addr} {sl_words : Array (Option Value)} {oc_words kv_words dc_words pm_words cd_words ct_words : Value}
    {od_is_told : Option Addr} {an_is_told : Option Addr} {sl_is_told : Array (Option Value)} {oc_is_told kv_is_told dc_is_told pm_is_told cd_is_told ct_is_told : Value} {od_met : Option Addr} {an_met : Option Addr} {sl_met : Array (Option Value)} {oc_met kv_met dc_met pm_met cd_met ct_met : Value}
    {od_turned : Option Addr} {an_turned : Option Addr} {sl_turned : Array (Option Value)} {oc_turned kv_turned dc_turned pm_turned cd_turned ct_turned : Value} {od_made : Option Addr} {an_made : Option Addr} {sl_made : Array (Option Value)} {oc_made kv_made dc_made pm_made cd_made ct_made : Value}
    {od_right : Option Addr} {an_right : Option Addr} {sl_right : Array (Option Value)} {oc_right kv_right dc_right pm_right cd_right ct_right : Value} {od_p_int : Option Addr} {an_p_int : Option Addr} {sl_p_int : Array (Option Value)} {oc_p_int kv_p_int dc_p_int pm_p_int cd_p_int ct_p_int : Value}
    {od_p_signs : Option Addr} {an_p_signs : Option Addr} {sl_p_signs : Array (Option Value)} {oc_p_signs kv_p_signs dc_p_signs pm_p_signs cd_p_signs ct_p_signs : Value} {od_p_state : Option Addr} {an_p_state : Option Addr} {sl_p_state : Array (Option Value)} {oc_p_state kv_p_state dc_p_state pm_p_state cd_p_state ct_p_state : Value}
    {od_p_states : Option Addr} {an_p_states : Option Addr} {sl_p_states : Array (Option Value)} {oc_p_states kv_p_states dc_p_states pm_p_states cd_p_states ct_p_states : Value} {od_p_req : Option Addr} {an_p_req : Option Addr} {sl_p_req : Array (Option Value)} {oc_p_req kv_p_req dc_p_req pm_p_req cd_p_req ct_p_req : Value}
    {od_p_lim : Option Addr} {an_p_lim : Option Addr} {sl_p_lim : Array (Option Value)} {oc_p_lim kv_p_lim dc_p_lim pm_p_lim cd_p_lim ct_p_lim : Value} {od_p_mm : Option Addr} {an_p_mm : Option Addr} {sl_p_mm : Array (Option Value)} {oc_p_mm kv_p_mm dc_p_mm pm_p_mm cd_p_mm ct_p_mm : Value}
    {od_p_mt : Option Addr} {an_p_mt : Option Addr} {sl_p_mt : Array (Option Value)} {oc_p_mt kv_p_mt dc_p_mt pm_p_mt cd_p_mt ct_p_mt : Value} {od_p_tm : Option Addr} {an_p_tm : Option Addr} {sl_p_tm : Array (Option Value)} {oc_p_tm kv_p_tm dc_p_tm pm_p_tm cd_p_tm ct_p_tm : Value}
    {od_p_tt : Option Addr} {an_p_tt : Option Addr} {sl_p_tt : Array (Option Value)} {oc_p_tt kv_p_tt dc_p_tt pm_p_tt cd_p_tt ct_p_tt : Value} {od_p_table : Option Addr} {an_p_table : Option Addr} {sl_p_table : Array (Option Value)} {oc_p_table kv_p_table dc_p_table pm_p_table cd_p_table ct_p_table : Value}
    {od_p_rule : Option Addr} {an_p_rule : Option Addr} {sl_p_rule : Array (Option Value)} {oc_p_rule kv_p_rule dc_p_rule pm_p_rule cd_p_rule ct_p_rule : Value} {od_p_like : Option Addr} {an_p_like : Option Addr} {sl_p_like : Array (Option Value)} {oc_p_like kv_p_like dc_p_like pm_p_like cd_p_like ct_p_like : Value}
    {od_both_right : Option Addr} {an_both_right : Option Addr} {sl_both_right : Array (Option Value)} {oc_both_right kv_both_right dc_both_right pm_both_right ct_both_right occ_both_right : Value} {odc_both_right : Option Addr} {slc_both_right : Array (Option Value)} {us_both_right : Array Value} {od_made_right : Option Addr} {an_made_right : Option Addr} {sl_made_right : Array (Option Value)}
    {oc_made_right kv_made_right dc_made_right pm_made_right ct_made_right occ_made_right : Value} {odc_made_right : Option Addr} {slc_made_right : Array (Option Value)} {us_made_right : Array Value} {od_law : Option Addr} {an_law : Option Addr} {sl_law : Array (Option Value)} {oc_law kv_law dc_law pm_law ct_law occ_law : Value} {odc_law : Option Addr} {slc_law : Array (Option Value)} {us_law : Array Value} {t_MAX_SIGNS : Tok}
    {t_GREATEST : Tok} {t_LETTERS : Tok} {t_MAX_STATES : Tok} {t_DEAD : Tok} {nmC qC : Str} {bsC : List Value} {hdC abC : Bool} {snC : List Str}
    {subC : List Value} {colC : Option Bool} {ddC : Option Addr} {k0C k1C k2C k3C k5C : Option Value} {newC : String} {rest0 : List Value} {od_pr_signs : Option Addr} {an_pr_signs : Option Addr}
    {sl_pr_signs : Array (Option Value)} {oc_pr_signs kv_pr_signs dc_pr_signs pm_pr_signs cd_pr_signs ct_pr_signs : Value} {rest1 : List Value} {od_pr_states : Option Addr} {an_pr_states : Option Addr} {sl_pr_states : Array (Option Value)} {oc_pr_states kv_pr_states dc_pr_states pm_pr_states cd_pr_states ct_pr_states : Value} {crest0 : List Value}
    {od_c_of_words : Option Addr} {an_c_of_words : Option Addr} {sl_c_of_words : Array (Option Value)} {oc_c_of_words kv_c_of_words dc_c_of_words pm_c_of_words cd_c_of_words ct_c_of_words : Value} {crest1 : List Value} {od_c_counting : Option Addr} {an_c_counting : Option Addr} {sl_c_counting : Array (Option Value)}
    {oc_c_counting kv_c_counting dc_c_counting pm_c_counting cd_c_counting ct_c_counting : Value} {od_init : Option Addr} {an_init : Option Addr} {sl_init : Array (Option Value)} {oc_init kv_init dc_init pm_init cd_init ct_init : Value} {od_m_is_kept_by : Option Addr} {an_m_is_kept_by : Option Addr} {sl_m_is_kept_by : Array (Option Value)}
    {oc_m_is_kept_by kv_m_is_kept_by dc_m_is_kept_by pm_m_is_kept_by cd_m_is_kept_by ct_m_is_kept_by : Value} {od_m_call : Option Addr} {an_m_call : Option Addr} {sl_m_call : Array (Option Value)} {oc_m_call kv_m_call dc_m_call pm_m_call cd_m_call ct_m_call : Value} {od_m_contains : Option Addr} {an_m_contains : Option Addr} {sl_m_contains : Array (Option Value)}
    {oc_m_contains kv_m_contains dc_m_contains pm_m_contains cd_m_contains ct_m_contains : Value} {od_m_and : Option Addr} {an_m_and : Option Addr} {sl_m_and : Array (Option Value)} {oc_m_and kv_m_and dc_m_and pm_m_and cd_m_and ct_m_and : Value} {od_m_or : Option Addr} {an_m_or : Option Addr} {sl_m_or : Array (Option Value)}
    {oc_m_or kv_m_or dc_m_or pm_m_or cd_m_or ct_m_or : Value} {od_m_negated : Option Addr} {an_m_negated : Option Addr} {sl_m_negated : Array (Option Value)} {oc_m_negated kv_m_negated dc_m_negated pm_m_negated cd_m_negated ct_m_negated : Value} {od_m_eq : Option Addr} {an_m_eq : Option Addr} {sl_m_eq : Array (Option Value)}
    {oc_m_eq kv_m_eq dc_m_eq pm_m_eq cd_m_eq ct_m_eq : Value} {od_m_len : Option Addr} {an_m_len : Option Addr} {sl_m_len : Array (Option Value)} {oc_m_len kv_m_len dc_m_len pm_m_len cd_m_len ct_m_len : Value} {od_m_str : Option Addr} {an_m_str : Option Addr} {sl_m_str : Array (Option Value)}
    {oc_m_str kv_m_str dc_m_str pm_m_str cd_m_str ct_m_str : Value} {od_p_word odT_p_word an_p_word : Option Addr} {sl_p_word slT_p_word : Array (Option Value)} {oc_p_word ocT_p_word kv_p_word dc_p_word pm_p_word cd_p_word ct_p_word : Value} {nT_p_word : Nat} {oc_ti dV_ti kv_ti dc_ti pm_ti ct_ti ccl_ti cl_ti : Value} {od_ti an_ti cdd_ti cld_ti : Option Addr} {sl_ti ccs_ti csl_ti : Array (Option Value)}
    {vs_ti : Array Value} {file_ti : Str} {tf_ti : Tok}
    (a_feed : PySem.W.nsIn K mainGlobals "_law_feed" = some (some (.ref f_feed)))
    (l_feed : K.lookup f_feed = some ⟨oc_feed, od_feed, .func (PySem.W.fnOf "_law_feed" "_law_feed" (defArgs s_feed) (defBody s_feed) (defScope s_feed) .none kv_feed dc_feed pm_feed an_feed cd_feed ct_feed), sl_feed⟩)
    (c_feed : PySem.W.codeIn K cd_feed "_law_feed" = true)
    (k_feed : PySem.W.keepIn K (.ref f_feed) = true)
    (a_take : PySem.W.nsIn K mainGlobals "_law_take" = some (some (.ref f_take)))
    (l_take : K.lookup f_take = some ⟨oc_take, od_take, .func (PySem.W.fnOf "_law_take" "_law_take" (defArgs s_take) (defBody s_take) (defScope s_take) .none kv_take dc_take pm_take an_take cd_take ct_take), sl_take⟩)
    (c_take : PySem.W.codeIn K cd_take "_law_take" = true)
    (k_take : PySem.W.keepIn K (.ref f_take) = true)
    (a_pick : PySem.W.nsIn K mainGlobals "_law_pick" = some (some (.ref f_pick)))
    (l_pick : K.lookup f_pick = some ⟨oc_pick, od_pick, .func (PySem.W.fnOf "_law_pick" "_law_pick" (defArgs s_pick) (defBody s_pick) (defScope s_pick) .none kv_pick dc_pick pm_pick an_pick cd_pick ct_pick), sl_pick⟩)
    (c_pick : PySem.W.codeIn K cd_pick "_law_pick" = true)
    (k_pick : PySem.W.keepIn K (.ref f_pick) = true)
    (a_states : PySem.W.nsIn K mainGlobals "_law_states" = some (some (.ref f_states)))
    (l_states : K.lookup f_states = some ⟨oc_states, od_states, .func (PySem.W.fnOf "_law_states" "_law_states" (defArgs s_states) (defBody s_states) (defScope s_states) .none kv_states dc_states pm_states an_states cd_states ct_states), sl_states⟩)
    (c_states : PySem.W.codeIn K cd_states "_law_states" = true)
    (k_states : PySem.W.keepIn K (.ref f_states) = true)
    (a_keeps : PySem.W.nsIn K mainGlobals "_law_keeps" = some (some (.ref f_keeps)))
    (l_keeps : K.lookup f_keeps = some ⟨oc_keeps, od_keeps, .func (PySem.W.fnOf "_law_keeps" "_law_keeps" (defArgs s_keeps) (defBody s_keeps) (defScope s_keeps) .none kv_keeps dc_keeps pm_keeps an_keeps cd_keeps ct_keeps), sl_keeps⟩)
    (c_keeps : PySem.W.codeIn K cd_keeps "_law_keeps" = true)
    (k_keeps : PySem.W.keepIn K (.ref f_keeps) = true)
    (a_words : PySem.W.nsIn K mainGlobals "_law_words" = some (some (.ref f_words)))
    (l_words : K.lookup f_words = some ⟨oc_words, od_words, .func (PySem.W.fnOf "_law_words" "_law_words" (defArgs s_words) (defBody s_words) (defScope s_words) .none kv_words dc_words pm_words an_words cd_words ct_words), sl_words⟩)
    (c_words : PySem.W.codeIn K cd_words "_law_words" = true)
    (k_words : PySem.W.keepIn K (.ref f_words) = true)
    (a_is_told : PySem.W.nsIn K mainGlobals "_law_is_told" = some (some (.ref f_is_told)))
    (l_is_told : K.lookup f_is_told = some ⟨oc_is_told, od_is_told, .func (PySem.W.fnOf "_law_is_told" "_law_is_told" (defArgs s_is_told) (defBody s_is_told) (defScope s_is_told) .none kv_is_told dc_is_told pm_is_told an_is_told cd_is_told ct_is_told), sl_is_told⟩)
    (c_is_told : PySem.W.codeIn K cd_is_told "_law_is_told" = true)
    (k_is_told : PySem.W.keepIn K (.ref f_is_told) = true)
    (a_met : PySem.W.nsIn K mainGlobals "_law_met" = some (some (.ref f_met)))
    (l_met : K.lookup f_met = some ⟨oc_met, od_met, .func (PySem.W.fnOf "_law_met" "_law_met" (defArgs s_met) (defBody s_met) (defScope s_met) .none kv_met dc_met pm_met an_met cd_met ct_met), sl_met⟩)
    (c_met : PySem.W.codeIn K cd_met "_law_met" = true)
    (k_met : PySem.W.keepIn K (.ref f_met) = true)
    (a_turned : PySem.W.nsIn K mainGlobals "_law_turned" = some (some (.ref f_turned)))
    (l_turned : K.lookup f_turned = some ⟨oc_turned, od_turned, .func (PySem.W.fnOf "_law_turned" "_law_turned" (defArgs s_turned) (defBody s_turned) (defScope s_turned) .none kv_turned dc_turned pm_turned an_turned cd_turned ct_turned), sl_turned⟩)
    (c_turned : PySem.W.codeIn K cd_turned "_law_turned" = true)
    (k_turned : PySem.W.keepIn K (.ref f_turned) = true)
    (a_made : PySem.W.nsIn K mainGlobals "_law_made" = some (some (.ref f_made)))
    (l_made : K.lookup f_made = some ⟨oc_made, od_made, .func (PySem.W.fnOf "_law_made" "_law_made" (defArgs s_made) (defBody s_made) (defScope s_made) .none kv_made dc_made pm_made an_made cd_made ct_made), sl_made⟩)
    (c_made : PySem.W.codeIn K cd_made "_law_made" = true)
    (k_made : PySem.W.keepIn K (.ref f_made) = true)
    (a_right : PySem.W.nsIn K mainGlobals "_law_right" = some (some (.ref f_right)))
    (l_right : K.lookup f_right = some ⟨oc_right, od_right, .func (PySem.W.fnOf "_law_right" "_law_right" (defArgs s_right) (defBody s_right) (defScope s_right) .none kv_right dc_right pm_right an_right cd_right ct_right), sl_right⟩)
    (c_right : PySem.W.codeIn K cd_right "_law_right" = true)
    (k_right : PySem.W.keepIn K (.ref f_right) = true)
    (a_p_int : PySem.W.nsIn K mainGlobals "is_integer" = some (some (.ref f_p_int)))
    (l_p_int : K.lookup f_p_int = some ⟨oc_p_int, od_p_int, .func (PySem.W.fnOf "is_integer" "is_integer" (defArgs s_p_int) (defBody s_p_int) (defScope s_p_int) .none kv_p_int dc_p_int pm_p_int an_p_int cd_p_int ct_p_int), sl_p_int⟩)
    (c_p_int : PySem.W.codeIn K cd_p_int "is_integer" = true)
    (k_p_int : PySem.W.keepIn K (.ref f_p_int) = true)
    (a_p_signs : PySem.W.nsIn K mainGlobals "is_signs" = some (some (.ref f_p_signs)))
    (l_p_signs : K.lookup f_p_signs = some ⟨oc_p_signs, od_p_signs, .func (PySem.W.fnOf "is_signs" "is_signs" (defArgs s_p_signs) (defBody s_p_signs) (defScope s_p_signs) .none kv_p_signs dc_p_signs pm_p_signs an_p_signs cd_p_signs ct_p_signs), sl_p_signs⟩)
    (c_p_signs : PySem.W.codeIn K cd_p_signs "is_signs" = true)
    (k_p_signs : PySem.W.keepIn K (.ref f_p_signs) = true)
    (a_p_state : PySem.W.nsIn K mainGlobals "is_state" = some (some (.ref f_p_state)))
    (l_p_state : K.lookup f_p_state = some ⟨oc_p_state, od_p_state, .func (PySem.W.fnOf "is_state" "is_state" (defArgs s_p_state) (defBody s_p_state) (defScope s_p_state) .none kv_p_state dc_p_state pm_p_state an_p_state cd_p_state ct_p_state), sl_p_state⟩)
    (c_p_state : PySem.W.codeIn K cd_p_state "is_state" = true)
    (k_p_state : PySem.W.keepIn K (.ref f_p_state) = true)
    (a_p_states : PySem.W.nsIn K mainGlobals "are_states" = some (some (.ref f_p_states)))
    (l_p_states : K.lookup f_p_states = some ⟨oc_p_states, od_p_states, .func (PySem.W.fnOf "are_states" "are_states" (defArgs s_p_states) (defBody s_p_states) (defScope s_p_states) .none kv_p_states dc_p_states pm_p_states an_p_states cd_p_states ct_p_states), sl_p_states⟩)
    (c_p_states : PySem.W.codeIn K cd_p_states "are_states" = true)
    (k_p_states : PySem.W.keepIn K (.ref f_p_states) = true)
    (a_p_req : PySem.W.nsIn K mainGlobals "require_signs" = some (some (.ref f_p_req)))
    (l_p_req : K.lookup f_p_req = some ⟨oc_p_req, od_p_req, .func (PySem.W.fnOf "require_signs" "require_signs" (defArgs s_p_req) (defBody s_p_req) (defScope s_p_req) .none kv_p_req dc_p_req pm_p_req an_p_req cd_p_req ct_p_req), sl_p_req⟩)
    (c_p_req : PySem.W.codeIn K cd_p_req "require_signs" = true)
    (k_p_req : PySem.W.keepIn K (.ref f_p_req) = true)
    (a_p_lim : PySem.W.nsIn K mainGlobals "limited" = some (some (.ref f_p_lim)))
    (l_p_lim : K.lookup f_p_lim = some ⟨oc_p_lim, od_p_lim, .func (PySem.W.fnOf "limited" "limited" (defArgs s_p_lim) (defBody s_p_lim) (defScope s_p_lim) .none kv_p_lim dc_p_lim pm_p_lim an_p_lim cd_p_lim ct_p_lim), sl_p_lim⟩)
    (c_p_lim : PySem.W.codeIn K cd_p_lim "limited" = true)
    (k_p_lim : PySem.W.keepIn K (.ref f_p_lim) = true)
    (a_p_mm : PySem.W.nsIn K mainGlobals "met_moves" = some (some (.ref f_p_mm)))
    (l_p_mm : K.lookup f_p_mm = some ⟨oc_p_mm, od_p_mm, .func (PySem.W.fnOf "met_moves" "met_moves" (defArgs s_p_mm) (defBody s_p_mm) (defScope s_p_mm) .none kv_p_mm dc_p_mm pm_p_mm an_p_mm cd_p_mm ct_p_mm), sl_p_mm⟩)
    (c_p_mm : PySem.W.codeIn K cd_p_mm "met_moves" = true)
    (k_p_mm : PySem.W.keepIn K (.ref f_p_mm) = true)
    (a_p_mt : PySem.W.nsIn K mainGlobals "met_table" = some (some (.ref f_p_mt)))
    (l_p_mt : K.lookup f_p_mt = some ⟨oc_p_mt, od_p_mt, .func (PySem.W.fnOf "met_table" "met_table" (defArgs s_p_mt) (defBody s_p_mt) (defScope s_p_mt) .none kv_p_mt dc_p_mt pm_p_mt an_p_mt cd_p_mt ct_p_mt), sl_p_mt⟩)
    (c_p_mt : PySem.W.codeIn K cd_p_mt "met_table" = true)
    (k_p_mt : PySem.W.keepIn K (.ref f_p_mt) = true)
    (a_p_tm : PySem.W.nsIn K mainGlobals "turned_moves" = some (some (.ref f_p_tm)))
    (l_p_tm : K.lookup f_p_tm = some ⟨oc_p_tm, od_p_tm, .func (PySem.W.fnOf "turned_moves" "turned_moves" (defArgs s_p_tm) (defBody s_p_tm) (defScope s_p_tm) .none kv_p_tm dc_p_tm pm_p_tm an_p_tm cd_p_tm ct_p_tm), sl_p_tm⟩)
    (c_p_tm : PySem.W.codeIn K cd_p_tm "turned_moves" = true)
    (k_p_tm : PySem.W.keepIn K (.ref f_p_tm) = true)
    (a_p_tt : PySem.W.nsIn K mainGlobals "turned_table" = some (some (.ref f_p_tt)))
    (l_p_tt : K.lookup f_p_tt = some ⟨oc_p_tt, od_p_tt, .func (PySem.W.fnOf "turned_table" "turned_table" (defArgs s_p_tt) (defBody s_p_tt) (defScope s_p_tt) .none kv_p_tt dc_p_tt pm_p_tt an_p_tt cd_p_tt ct_p_tt), sl_p_tt⟩)
    (c_p_tt : PySem.W.codeIn K cd_p_tt "turned_table" = true)
    (k_p_tt : PySem.W.keepIn K (.ref f_p_tt) = true)
    (a_p_table : PySem.W.nsIn K mainGlobals "table_of" = some (some (.ref f_p_table)))
    (l_p_table : K.lookup f_p_table = some ⟨oc_p_table, od_p_table, .func (PySem.W.fnOf "table_of" "table_of" (defArgs s_p_table) (defBody s_p_table) (defScope s_p_table) .none kv_p_table dc_p_table pm_p_table an_p_table cd_p_table ct_p_table), sl_p_table⟩)
    (c_p_table : PySem.W.codeIn K cd_p_table "table_of" = true)
    (k_p_table : PySem.W.keepIn K (.ref f_p_table) = true)
    (a_p_rule : PySem.W.nsIn K mainGlobals "rule_of" = some (some (.ref f_p_rule)))
    (l_p_rule : K.lookup f_p_rule = some ⟨oc_p_rule, od_p_rule, .func (PySem.W.fnOf "rule_of" "rule_of" (defArgs s_p_rule) (defBody s_p_rule) (defScope s_p_rule) .none kv_p_rule dc_p_rule pm_p_rule an_p_rule cd_p_rule ct_p_rule), sl_p_rule⟩)
    (c_p_rule : PySem.W.codeIn K cd_p_rule "rule_of" = true)
    (k_p_rule : PySem.W.keepIn K (.ref f_p_rule) = true)
    (a_p_like : PySem.W.nsIn K mainGlobals "require_like" = some (some (.ref f_p_like)))
    (l_p_like : K.lookup f_p_like = some ⟨oc_p_like, od_p_like, .func (PySem.W.fnOf "require_like" "require_like" (defArgs s_p_like) (defBody s_p_like) (defScope s_p_like) .none kv_p_like dc_p_like pm_p_like an_p_like cd_p_like ct_p_like), sl_p_like⟩)
    (c_p_like : PySem.W.codeIn K cd_p_like "require_like" = true)
    (k_p_like : PySem.W.keepIn K (.ref f_p_like) = true)
    (a_both_right : PySem.W.nsIn K mainGlobals "_law_both_right" = some (some (.ref f_both_right)))
    (l_both_right : K.lookup f_both_right = some ⟨oc_both_right, od_both_right, .func (PySem.W.fnOf "_law_both_right" "_law_both_right" (defArgs s_both_right) (defBody s_both_right) (defScope s_both_right) .none kv_both_right dc_both_right pm_both_right an_both_right (.ref c_o_both_right) ct_both_right), sl_both_right⟩)
    (c_both_right : PySem.W.codeIn K (.ref c_o_both_right) "_law_both_right" = true)
    (lc_both_right : K.lookup c_o_both_right = some ⟨occ_both_right, odc_both_right, .fields us_both_right, slc_both_right⟩)
    (vc_both_right : us_both_right[11]? = some (.ref Q_both_right))
    (r_both_right : ((recsOf q).any fun e => e.name == "_law_both_right") = true)
    (k_both_right : PySem.W.keepIn K (.ref f_both_right) = true)
    (a_made_right : PySem.W.nsIn K mainGlobals "_law_made_right" = some (some (.ref f_made_right)))
    (l_made_right : K.lookup f_made_right = some ⟨oc_made_right, od_made_right, .func (PySem.W.fnOf "_law_made_right" "_law_made_right" (defArgs s_made_right) (defBody s_made_right) (defScope s_made_right) .none kv_made_right dc_made_right pm_made_right an_made_right (.ref c_o_made_right) ct_made_right), sl_made_right⟩)
    (c_made_right : PySem.W.codeIn K (.ref c_o_made_right) "_law_made_right" = true)
    (lc_made_right : K.lookup c_o_made_right = some ⟨occ_made_right, odc_made_right, .fields us_made_right, slc_made_right⟩)
    (vc_made_right : us_made_right[11]? = some (.ref Q_made_right))
    (r_made_right : ((recsOf q).any fun e => e.name == "_law_made_right") = true)
    (k_made_right : PySem.W.keepIn K (.ref f_made_right) = true)
    (a_law : PySem.W.nsIn K mainGlobals "law" = some (some (.ref f_law)))
    (l_law : K.lookup f_law = some ⟨oc_law, od_law, .func (PySem.W.fnOf "law" "law" (defArgs s_law) (defBody s_law) (defScope s_law) .none kv_law dc_law pm_law an_law (.ref c_o_law) ct_law), sl_law⟩)
    (c_law : PySem.W.codeIn K (.ref c_o_law) "law" = true)
    (lc_law : K.lookup c_o_law = some ⟨occ_law, odc_law, .fields us_law, slc_law⟩)
    (vc_law : us_law[11]? = some (.ref Q_law))
    (r_law : ((recsOf q).any fun e => e.name == "law") = true)
    (k_law : PySem.W.keepIn K (.ref f_law) = true)
    (z_len : PySem.W.nsIn K mainGlobals "len" = some none)
    (z_int : PySem.W.nsIn K mainGlobals "int" = some none)
    (z_abs : PySem.W.nsIn K mainGlobals "abs" = some none)
    (z_max : PySem.W.nsIn K mainGlobals "max" = some none)
    (z_min : PySem.W.nsIn K mainGlobals "min" = some none)
    (z_list : PySem.W.nsIn K mainGlobals "list" = some none)
    (z_tuple : PySem.W.nsIn K mainGlobals "tuple" = some none)
    (z_range : PySem.W.nsIn K mainGlobals "range" = some none)
    (z_sorted : PySem.W.nsIn K mainGlobals "sorted" = some none)
    (z_isinstance : PySem.W.nsIn K mainGlobals "isinstance" = some none)
    (z_str : PySem.W.nsIn K mainGlobals "str" = some none)
    (z_all : PySem.W.nsIn K mainGlobals "all" = some none)
    (z_zip : PySem.W.nsIn K mainGlobals "zip" = some none)
    (z_set : PySem.W.nsIn K mainGlobals "set" = some none)
    (z_repr : PySem.W.nsIn K mainGlobals "repr" = some none)
    (z_dict : PySem.W.nsIn K mainGlobals "dict" = some none)
    (g_MAX_SIGNS : PySem.W.nsIn K mainGlobals "MAX_SIGNS" = some (some (.int 4 t_MAX_SIGNS)))
    (g_GREATEST : PySem.W.nsIn K mainGlobals "GREATEST" = some (some (.int 1000000000000000000000000000000000000000000000000000000000000 t_GREATEST)))
    (g_LETTERS : PySem.W.nsIn K mainGlobals "LETTERS" = some (some (.str "abcdefghijklmnopqrstuvwxyz" t_LETTERS)))
    (g_MAX_STATES : PySem.W.nsIn K mainGlobals "MAX_STATES" = some (some (.int 6 t_MAX_STATES)))
    (g_DEAD : PySem.W.nsIn K mainGlobals "DEAD" = some (some (.int (-1) t_DEAD)))
    (z_bool : PySem.W.nsIn K mainGlobals "bool" = some none)
    (z_enumerate : PySem.W.nsIn K mainGlobals "enumerate" = some none)
    (z_super : PySem.W.nsIn K mainGlobals "super" = some none)
    (nC : PySem.W.nsIn K mainGlobals "Rule" = some (some (.ref C)))
    (nT : PySem.W.nsIn K mainGlobals "TooMany" = some (some (.ref TM)))
    (pg : PySem.W.plainGet K C Str.empty = true)
    (ic : PySem.W.isClsIn K C = true)
    (po : PySem.W.plainOver K C = true)
    (sa : PySem.W.findIn K (.ref C) "__setattr__" = some (some (.builtin "object.__setattr__")))
    (mk : PySem.W.makesIn K C = true)
    (kC : PySem.W.keepIn K (.ref C) = true)
    (tC : PySem.W.typeIn K (.ref C) = some (.type "type"))
    (sT : PySem.W.subIn K (.type "tuple") (.ref C) = some false)
    (si1 : PySem.W.findIn K (.ref C) "__class__" = some (some (.builtin "object.__class__")))
    (si2 : PySem.W.specialIn K (.builtin "object.__class__") "__get__" = some (some (.builtin "getset_descriptor.__get__")))
    (si3 : PySem.W.takesIn K (.builtin "object.__class__") = some true)
    (si4 : PySem.W.mroIn K C (.type "object") = some true)
    (sf : PySem.W.selfFirst K C = true)
    (nf : PySem.W.notFirst K C (.ref C) = true)
    (nt9 : PySem.W.notFirst K C (.type "tuple") = true)
    (l_C : K.lookup C = some (excClassObj nmC qC C NC bsC [.type "object"] hdC snC subC abC colC ddC k0C k1C k2C k3C k5C newC))
    (nsC : PySem.W.nsOkIn K NC = true)
    (nsNe : PySem.W.nsIn K NC "__ne__" = some none)
    (w0 : PySem.W.findIn K (.ref C) "own_goods" = some (some (.ref p0)))
    (w0g : PySem.W.specialIn K (.ref p0) "__get__" = some (some (.builtin "member_descriptor.__get__")))
    (w0k : PySem.W.takesIn K (.ref p0) = some true)
    (w0t : PySem.W.typeIn K (.ref p0) = some (.type "member_descriptor"))
    (w0i : PySem.W.slotIn K p0 C = some 0)
    (w1 : PySem.W.findIn K (.ref C) "own_moves" = some (some (.ref p1)))
    (w1g : PySem.W.specialIn K (.ref p1) "__get__" = some (some (.builtin "member_descriptor.__get__")))
    (w1k : PySem.W.takesIn K (.ref p1) = some true)
    (w1t : PySem.W.typeIn K (.ref p1) = some (.type "member_descriptor"))
    (w1i : PySem.W.slotIn K p1 C = some 1)
    (w2 : PySem.W.findIn K (.ref C) "own_signs" = some (some (.ref p2)))
    (w2g : PySem.W.specialIn K (.ref p2) "__get__" = some (some (.builtin "member_descriptor.__get__")))
    (w2k : PySem.W.takesIn K (.ref p2) = some true)
    (w2t : PySem.W.typeIn K (.ref p2) = some (.type "member_descriptor"))
    (w2i : PySem.W.slotIn K p2 C = some 2)
    (u0 : PySem.W.findIn K (.ref C) "signs" = some (some (.ref q0)))
    (u0g : PySem.W.specialIn K (.ref q0) "__get__" = some (some (.builtin "property.__get__")))
    (u0k : PySem.W.takesIn K (.ref q0) = some true)
    (a_pr_signs : PySem.W.recIn K q0 "property" = some (.ref f_pr_signs :: rest0))
    (l_pr_signs : K.lookup f_pr_signs = some ⟨oc_pr_signs, od_pr_signs, .func (PySem.W.fnOf "signs" "Rule.signs" (defArgs s_m_signs) (defBody s_m_signs) (defScope s_m_signs) .none kv_pr_signs dc_pr_signs pm_pr_signs an_pr_signs cd_pr_signs ct_pr_signs), sl_pr_signs⟩)
    (c_pr_signs : PySem.W.codeIn K cd_pr_signs "Rule.signs" = true)
    (k_pr_signs : PySem.W.keepIn K (.ref f_pr_signs) = true)
    (u1 : PySem.W.findIn K (.ref C) "states" = some (some (.ref q1)))
    (u1g : PySem.W.specialIn K (.ref q1) "__get__" = some (some (.builtin "property.__get__")))
    (u1k : PySem.W.takesIn K (.ref q1) = some true)
    (a_pr_states : PySem.W.recIn K q1 "property" = some (.ref f_pr_states :: rest1))
    (l_pr_states : K.lookup f_pr_states = some ⟨oc_pr_states, od_pr_states, .func (PySem.W.fnOf "states" "Rule.states" (defArgs s_m_states) (defBody s_m_states) (defScope s_m_states) .none kv_pr_states dc_pr_states pm_pr_states an_pr_states cd_pr_states ct_pr_states), sl_pr_states⟩)
    (c_pr_states : PySem.W.codeIn K cd_pr_states "Rule.states" = true)
    (k_pr_states : PySem.W.keepIn K (.ref f_pr_states) = true)
    (cr1 : PySem.W.readsIn K C (.type "type") = true)
    (cr2 : PySem.W.specialIn K (.ref C) "__getattribute__" = some (some (.builtin "type.__getattribute__")))
    (v0 : PySem.W.findCls K (.ref C) (.type "type") "of_words" = some (.get (.builtin "classmethod.__get__") (.ref cm0) .none (.ref C)))
    (a_c_of_words : PySem.W.recIn K cm0 "classmethod" = some (.ref f_c_of_words :: crest0))
    (l_c_of_words : K.lookup f_c_of_words = some ⟨oc_c_of_words, od_c_of_words, .func (PySem.W.fnOf "of_words" "Rule.of_words" (defArgs s_m_of_words) (defBody s_m_of_words) (defScope s_m_of_words) .none kv_c_of_words dc_c_of_words pm_c_of_words an_c_of_words cd_c_of_words ct_c_of_words), sl_c_of_words⟩)
    (c_c_of_words : PySem.W.codeIn K cd_c_of_words "Rule.of_words" = true)
    (k_c_of_words : PySem.W.keepIn K (.ref f_c_of_words) = true)
    (fi_of_words : PySem.W.fnIn K f_c_of_words = true)
    (v1 : PySem.W.findCls K (.ref C) (.type "type") "counting" = some (.get (.builtin "classmethod.__get__") (.ref cm1) .none (.ref C)))
    (a_c_counting : PySem.W.recIn K cm1 "classmethod" = some (.ref f_c_counting :: crest1))
    (l_c_counting : K.lookup f_c_counting = some ⟨oc_c_counting, od_c_counting, .func (PySem.W.fnOf "counting" "Rule.counting" (defArgs s_m_counting) (defBody s_m_counting) (defScope s_m_counting) .none kv_c_counting dc_c_counting pm_c_counting an_c_counting cd_c_counting ct_c_counting), sl_c_counting⟩)
    (c_c_counting : PySem.W.codeIn K cd_c_counting "Rule.counting" = true)
    (k_c_counting : PySem.W.keepIn K (.ref f_c_counting) = true)
    (fi_counting : PySem.W.fnIn K f_c_counting = true)
    (a_init : PySem.W.findIn K (.ref C) "__init__" = some (some (.ref f_init)))
    (l_init : K.lookup f_init = some ⟨oc_init, od_init, .func (PySem.W.fnOf "__init__" "Rule.__init__" (defArgs s_m_init) (defBody s_m_init) (defScope s_m_init) .none kv_init dc_init pm_init an_init cd_init ct_init), sl_init⟩)
    (c_init : PySem.W.codeIn K cd_init "Rule.__init__" = true)
    (k_init : PySem.W.keepIn K (.ref f_init) = true)
    (i_init : PySem.W.isFn K (.ref f_init) = true)
    (a_m_is_kept_by : PySem.W.findIn K (.ref C) "is_kept_by" = some (some (.ref f_m_is_kept_by)))
    (l_m_is_kept_by : K.lookup f_m_is_kept_by = some ⟨oc_m_is_kept_by, od_m_is_kept_by, .func (PySem.W.fnOf "is_kept_by" "Rule.is_kept_by" (defArgs s_m_is_kept_by) (defBody s_m_is_kept_by) (defScope s_m_is_kept_by) .none kv_m_is_kept_by dc_m_is_kept_by pm_m_is_kept_by an_m_is_kept_by cd_m_is_kept_by ct_m_is_kept_by), sl_m_is_kept_by⟩)
    (c_m_is_kept_by : PySem.W.codeIn K cd_m_is_kept_by "Rule.is_kept_by" = true)
    (k_m_is_kept_by : PySem.W.keepIn K (.ref f_m_is_kept_by) = true)
    (i_m_is_kept_by : PySem.W.isFn K (.ref f_m_is_kept_by) = true)
    (a_m_call : PySem.W.findIn K (.ref C) "__call__" = some (some (.ref f_m_call)))
    (l_m_call : K.lookup f_m_call = some ⟨oc_m_call, od_m_call, .func (PySem.W.fnOf "__call__" "Rule.__call__" (defArgs s_m_call) (defBody s_m_call) (defScope s_m_call) .none kv_m_call dc_m_call pm_m_call an_m_call cd_m_call ct_m_call), sl_m_call⟩)
    (c_m_call : PySem.W.codeIn K cd_m_call "Rule.__call__" = true)
    (k_m_call : PySem.W.keepIn K (.ref f_m_call) = true)
    (i_m_call : PySem.W.isFn K (.ref f_m_call) = true)
    (a_m_contains : PySem.W.findIn K (.ref C) "__contains__" = some (some (.ref f_m_contains)))
    (l_m_contains : K.lookup f_m_contains = some ⟨oc_m_contains, od_m_contains, .func (PySem.W.fnOf "__contains__" "Rule.__contains__" (defArgs s_m_contains) (defBody s_m_contains) (defScope s_m_contains) .none kv_m_contains dc_m_contains pm_m_contains an_m_contains cd_m_contains ct_m_contains), sl_m_contains⟩)
    (c_m_contains : PySem.W.codeIn K cd_m_contains "Rule.__contains__" = true)
    (k_m_contains : PySem.W.keepIn K (.ref f_m_contains) = true)
    (i_m_contains : PySem.W.isFn K (.ref f_m_contains) = true)
    (a_m_and : PySem.W.findIn K (.ref C) "__and__" = some (some (.ref f_m_and)))
    (l_m_and : K.lookup f_m_and = some ⟨oc_m_and, od_m_and, .func (PySem.W.fnOf "__and__" "Rule.__and__" (defArgs s_m_and) (defBody s_m_and) (defScope s_m_and) .none kv_m_and dc_m_and pm_m_and an_m_and cd_m_and ct_m_and), sl_m_and⟩)
    (c_m_and : PySem.W.codeIn K cd_m_and "Rule.__and__" = true)
    (k_m_and : PySem.W.keepIn K (.ref f_m_and) = true)
    (i_m_and : PySem.W.isFn K (.ref f_m_and) = true)
    (a_m_or : PySem.W.findIn K (.ref C) "__or__" = some (some (.ref f_m_or)))
    (l_m_or : K.lookup f_m_or = some ⟨oc_m_or, od_m_or, .func (PySem.W.fnOf "__or__" "Rule.__or__" (defArgs s_m_or) (defBody s_m_or) (defScope s_m_or) .none kv_m_or dc_m_or pm_m_or an_m_or cd_m_or ct_m_or), sl_m_or⟩)
    (c_m_or : PySem.W.codeIn K cd_m_or "Rule.__or__" = true)
    (k_m_or : PySem.W.keepIn K (.ref f_m_or) = true)
    (i_m_or : PySem.W.isFn K (.ref f_m_or) = true)
    (a_m_negated : PySem.W.findIn K (.ref C) "negated" = some (some (.ref f_m_negated)))
    (l_m_negated : K.lookup f_m_negated = some ⟨oc_m_negated, od_m_negated, .func (PySem.W.fnOf "negated" "Rule.negated" (defArgs s_m_negated) (defBody s_m_negated) (defScope s_m_negated) .none kv_m_negated dc_m_negated pm_m_negated an_m_negated cd_m_negated ct_m_negated), sl_m_negated⟩)
    (c_m_negated : PySem.W.codeIn K cd_m_negated "Rule.negated" = true)
    (k_m_negated : PySem.W.keepIn K (.ref f_m_negated) = true)
    (i_m_negated : PySem.W.isFn K (.ref f_m_negated) = true)
    (a_m_eq : PySem.W.findIn K (.ref C) "__eq__" = some (some (.ref f_m_eq)))
    (l_m_eq : K.lookup f_m_eq = some ⟨oc_m_eq, od_m_eq, .func (PySem.W.fnOf "__eq__" "Rule.__eq__" (defArgs s_m_eq) (defBody s_m_eq) (defScope s_m_eq) .none kv_m_eq dc_m_eq pm_m_eq an_m_eq cd_m_eq ct_m_eq), sl_m_eq⟩)
    (c_m_eq : PySem.W.codeIn K cd_m_eq "Rule.__eq__" = true)
    (k_m_eq : PySem.W.keepIn K (.ref f_m_eq) = true)
    (i_m_eq : PySem.W.isFn K (.ref f_m_eq) = true)
    (a_m_len : PySem.W.findIn K (.ref C) "__len__" = some (some (.ref f_m_len)))
    (l_m_len : K.lookup f_m_len = some ⟨oc_m_len, od_m_len, .func (PySem.W.fnOf "__len__" "Rule.__len__" (defArgs s_m_len) (defBody s_m_len) (defScope s_m_len) .none kv_m_len dc_m_len pm_m_len an_m_len cd_m_len ct_m_len), sl_m_len⟩)
    (c_m_len : PySem.W.codeIn K cd_m_len "Rule.__len__" = true)
    (k_m_len : PySem.W.keepIn K (.ref f_m_len) = true)
    (i_m_len : PySem.W.isFn K (.ref f_m_len) = true)
    (a_m_str : PySem.W.findIn K (.ref C) "__str__" = some (some (.ref f_m_str)))
    (l_m_str : K.lookup f_m_str = some ⟨oc_m_str, od_m_str, .func (PySem.W.fnOf "__str__" "Rule.__str__" (defArgs s_m_str) (defBody s_m_str) (defScope s_m_str) .none kv_m_str dc_m_str pm_m_str an_m_str cd_m_str ct_m_str), sl_m_str⟩)
    (c_m_str : PySem.W.codeIn K cd_m_str "Rule.__str__" = true)
    (k_m_str : PySem.W.keepIn K (.ref f_m_str) = true)
    (i_m_str : PySem.W.isFn K (.ref f_m_str) = true)
    (fi_call : PySem.W.fnIn K f_m_call = true)
    (nsEq : PySem.W.nsIn K NC "__eq__" = some (some (.ref f_m_eq)))
    (a_p_word : PySem.W.nsIn K mainGlobals "is_word_of" = some (some (.ref f_p_word)))
    (l_p_word : K.lookup f_p_word = some ⟨oc_p_word, od_p_word, .func (PySem.W.fnOf "is_word_of" "is_word_of" (defArgs s_p_word) (defBody s_p_word) (defScope s_p_word) (.ref T_p_word) kv_p_word dc_p_word pm_p_word an_p_word cd_p_word ct_p_word), sl_p_word⟩)
    (lT_p_word : K.lookup T_p_word = some ⟨ocT_p_word, odT_p_word, .seq #[.none] nT_p_word, slT_p_word⟩)
    (c_p_word : PySem.W.codeIn K cd_p_word "is_word_of" = true)
    (k_p_word : PySem.W.keepIn K (.ref f_p_word) = true)
    (tm_ex : PySem.W.excInitIn K TM [.type "OverflowError", .type "ArithmeticError", .type "Exception", .type "BaseException", .type "object"] "OverflowError.__new__" = true)
    (tm_ov : PySem.W.excOver K TM [.type "OverflowError", .type "ArithmeticError", .type "Exception", .type "BaseException", .type "object"] = true)
    (tm_in : PySem.W.findIn K (.ref TM) "__init__" = some (some (.ref f_ti)))
    (tm_ty : PySem.W.typeIn K (.ref f_ti) = some (.type "function"))
    (tm_su : PySem.W.ks_superIn K TM TM "__init__" = some (some (.builtin "OverflowError.__init__")))
    (tm_sb : PySem.W.subIn K (.ref TM) (.type "OverflowError") = some true)
    (tm_be : PySem.W.subIn K (.ref TM) (.type "BaseException") = some true)
    (tm_se : PySem.W.mroIn K TM (.ref TM) = some true)
    (tm_tc : PySem.W.typeIn K (.ref TM) = some (.type "type"))
    (tm_sa : PySem.W.findIn K (.ref TM) "__setattr__" = some (some (.builtin "object.__setattr__")))
    (tm_tk : PySem.W.takerIn K TM "limit" = some none)
    (tm_di : PySem.W.hasDictIn K TM = true)
    (tm_op : PySem.W.nsIn K cStatics "thirdparty.any" = some none)
    (tm_kC : PySem.W.keepIn K (.ref TM) = true)
    (tm_top : (l.prog.main.scope.names.lookup ("super" : Str)).isSome = false)
    (tm_l : K.lookup f_ti = some ⟨oc_ti, od_ti, .func (PySem.W.ksFn "__init__" "TooMany.__init__" (defArgs (inClass (top 5) 0)) (defBody (inClass (top 5) 0)) (defScope (inClass (top 5) 0)) dV_ti kv_ti dc_ti pm_ti an_ti (.ref cd_ti) ct_ti cc_ti), sl_ti⟩)
    (tm_c : PySem.W.codeIn K (.ref cd_ti) "TooMany.__init__" = true)
    (tm_lc : K.lookup cd_ti = some ⟨ccl_ti, cdd_ti, .fields vs_ti, ccs_ti⟩)
    (tm_v : vs_ti[2]? = some (.str file_ti tf_ti))
    (tm_fe : ((l.prog.main.file : Str) == file_ti) = true)
    (tm_cc : K.lookup cc_ti = some ⟨cl_ti, cld_ti, .cell (some (.ref TM)), csl_ti⟩)
    (tm_bi : ∀ us : List Value, us.length = 2 → bindArgs (PySem.W.ksFn "__init__" "TooMany.__init__" (defArgs (inClass (top 5) 0)) (defBody (inClass (top 5) 0)) (defScope (inClass (top 5) 0)) dV_ti kv_ti dc_ti pm_ti an_ti (.ref cd_ti) ct_ti cc_ti) ⟨us, []⟩ = pure ((["self", "limit"] : List Str).zip us))
    (tm_ga : PySem.W.findIn K (.ref TM) "__getattribute__" = some (some (.builtin "BaseException.__getattribute__")))
    (tm_gg : PySem.W.findIn K (.ref TM) "__getattr__" = some none)
    (tm_no : PySem.W.findIn K (.ref TM) "limit" = some none)
    (tm_ic : PySem.W.isClsIn K TM = true)
    (tm_ss : PySem.W.subIn K (.ref TM) (.ref TM) = some true)
    (ne_both_right_made_right : Q_both_right ≠ Q_made_right)
    (ne_both_right_law : Q_both_right ≠ Q_law)
    (ne_made_right_law : Q_made_right ≠ Q_law)
    : LawG l w K 12 63 "script" mg fa h := by
  have e := hfa.symm.trans (PySem.W.mg_of X G a_law)
  cases e
  have F_feed := fun_mk (st := s_feed) l_feed c_feed k_feed
  have b_feed := F_feed.binds (ps := ["script", "at"]) fun _ _ _ _ _ _ us hl => match us, hl with | [_, _], _ => rfl
  have D_feed : Df K mg "_law_feed" s_feed ["script", "at"] := ⟨f_feed, _, F_feed, PySem.W.mg_of X G a_feed, b_feed⟩
  have F_take := fun_mk (st := s_take) l_take c_take k_take
  have b_take := F_take.binds (ps := ["feed", "total"]) fun _ _ _ _ _ _ us hl => match us, hl with | [_, _], _ => rfl
  have D_take : Df K mg "_law_take" s_take ["feed", "total"] := ⟨f_take, _, F_take, PySem.W.mg_of X G a_take, b_take⟩
  have F_pick := fun_mk (st := s_pick) l_pick c_pick k_pick
  have b_pick := F_pick.binds (ps := ["feed", "items"]) fun _ _ _ _ _ _ us hl => match us, hl with | [_, _], _ => rfl
  have D_pick : Df K mg "_law_pick" s_pick ["feed", "items"] := ⟨f_pick, _, F_pick, PySem.W.mg_of X G a_pick, b_pick⟩
  have F_states := fun_mk (st := s_states) l_states c_states k_states
  have b_states := F_states.binds (ps := ["feed", "signs", "most"]) fun _ _ _ _ _ _ us hl => match us, hl with | [_, _, _], _ => rfl
  have D_states : Df K mg "_law_states" s_states ["feed", "signs", "most"] := ⟨f_states, _, F_states, PySem.W.mg_of X G a_states, b_states⟩
  have F_keeps := fun_mk (st := s_keeps) l_keeps c_keeps k_keeps
  have b_keeps := F_keeps.binds (ps := ["states", "word"]) fun _ _ _ _ _ _ us hl => match us, hl with | [_, _], _ => rfl
  have D_keeps : Df K mg "_law_keeps" s_keeps ["states", "word"] := ⟨f_keeps, _, F_keeps, PySem.W.mg_of X G a_keeps, b_keeps⟩
  have F_words := fun_mk (st := s_words) l_words c_words k_words
  have b_words := F_words.binds (ps := ["signs", "most"]) fun _ _ _ _ _ _ us hl => match us, hl with | [_, _], _ => rfl
  have D_words : Df K mg "_law_words" s_words ["signs", "most"] := ⟨f_words, _, F_words, PySem.W.mg_of X G a_words, b_words⟩
  have F_is_told := fun_mk (st := s_is_told) l_is_told c_is_told k_is_told
  have b_is_told := F_is_told.binds (ps := ["rule", "signs", "states", "words"]) fun _ _ _ _ _ _ us hl => match us, hl with | [_, _, _, _], _ => rfl
  have D_is_told : Df K mg "_law_is_told" s_is_told ["rule", "signs", "states", "words"] := ⟨f_is_told, _, F_is_told, PySem.W.mg_of X G a_is_told, b_is_told⟩
  have F_met := fun_mk (st := s_met) l_met c_met k_met
  have b_met := F_met.binds (ps := ["signs", "one", "other"]) fun _ _ _ _ _ _ us hl => match us, hl with | [_, _, _], _ => rfl
  have D_met : Df K mg "_law_met" s_met ["signs", "one", "other"] := ⟨f_met, _, F_met, PySem.W.mg_of X G a_met, b_met⟩
  have F_turned := fun_mk (st := s_turned) l_turned c_turned k_turned
  have b_turned := F_turned.binds (ps := ["signs", "one"]) fun _ _ _ _ _ _ us hl => match us, hl with | [_, _], _ => rfl
  have D_turned : Df K mg "_law_turned" s_turned ["signs", "one"] := ⟨f_turned, _, F_turned, PySem.W.mg_of X G a_turned, b_turned⟩
  have F_made := fun_mk (st := s_made) l_made c_made k_made
  have b_made := F_made.binds (ps := ["call"]) fun _ _ _ _ _ _ us hl => match us, hl with | [_], _ => rfl
  have D_made : Df K mg "_law_made" s_made ["call"] := ⟨f_made, _, F_made, PySem.W.mg_of X G a_made, b_made⟩
  have F_right := fun_mk (st := s_right) l_right c_right k_right
  have b_right := F_right.binds (ps := ["feed"]) fun _ _ _ _ _ _ us hl => match us, hl with | [_], _ => rfl
  have D_right : Df K mg "_law_right" s_right ["feed"] := ⟨f_right, _, F_right, PySem.W.mg_of X G a_right, b_right⟩
  have F_p_int := fun_mk (st := s_p_int) l_p_int c_p_int k_p_int
  have b_p_int := F_p_int.binds (ps := ["value"]) fun _ _ _ _ _ _ us hl => match us, hl with | [_], _ => rfl
  have D_p_int : Df K mg "is_integer" s_p_int ["value"] := ⟨f_p_int, _, F_p_int, PySem.W.mg_of X G a_p_int, b_p_int⟩
  have F_p_signs := fun_mk (st := s_p_signs) l_p_signs c_p_signs k_p_signs
  have b_p_signs := F_p_signs.binds (ps := ["value"]) fun _ _ _ _ _ _ us hl => match us, hl with | [_], _ => rfl
  have D_p_signs : Df K mg "is_signs" s_p_signs ["value"] := ⟨f_p_signs, _, F_p_signs, PySem.W.mg_of X G a_p_signs, b_p_signs⟩
  have F_p_state := fun_mk (st := s_p_state) l_p_state c_p_state k_p_state
  have b_p_state := F_p_state.binds (ps := ["signs", "value", "many"]) fun _ _ _ _ _ _ us hl => match us, hl with | [_, _, _], _ => rfl
  have D_p_state : Df K mg "is_state" s_p_state ["signs", "value", "many"] := ⟨f_p_state, _, F_p_state, PySem.W.mg_of X G a_p_state, b_p_state⟩
  have F_p_states := fun_mk (st := s_p_states) l_p_states c_p_states k_p_states
  have b_p_states := F_p_states.binds (ps := ["signs", "value"]) fun _ _ _ _ _ _ us hl => match us, hl with | [_, _], _ => rfl
  have D_p_states : Df K mg "are_states" s_p_states ["signs", "value"] := ⟨f_p_states, _, F_p_states, PySem.W.mg_of X G a_p_states, b_p_states⟩
  have F_p_req := fun_mk (st := s_p_req) l_p_req c_p_req k_p_req
  have b_p_req := F_p_req.binds (ps := ["signs"]) fun _ _ _ _ _ _ us hl => match us, hl with | [_], _ => rfl
  have D_p_req : Df K mg "require_signs" s_p_req ["signs"] := ⟨f_p_req, _, F_p_req, PySem.W.mg_of X G a_p_req, b_p_req⟩
  have F_p_lim := fun_mk (st := s_p_lim) l_p_lim c_p_lim k_p_lim
  have b_p_lim := F_p_lim.binds (ps := ["table"]) fun _ _ _ _ _ _ us hl => match us, hl with | [_], _ => rfl
  have D_p_lim : Df K mg "limited" s_p_lim ["table"] := ⟨f_p_lim, _, F_p_lim, PySem.W.mg_of X G a_p_lim, b_p_lim⟩
  have F_p_mm := fun_mk (st := s_p_mm) l_p_mm c_p_mm k_p_mm
  have b_p_mm := F_p_mm.binds (ps := ["signs", "one", "other", "key"]) fun _ _ _ _ _ _ us hl => match us, hl with | [_, _, _, _], _ => rfl
  have D_p_mm : Df K mg "met_moves" s_p_mm ["signs", "one", "other", "key"] := ⟨f_p_mm, _, F_p_mm, PySem.W.mg_of X G a_p_mm, b_p_mm⟩
  have F_p_mt := fun_mk (st := s_p_mt) l_p_mt c_p_mt k_p_mt
  have b_p_mt := F_p_mt.binds (ps := ["signs", "one", "other"]) fun _ _ _ _ _ _ us hl => match us, hl with | [_, _, _], _ => rfl
  have D_p_mt : Df K mg "met_table" s_p_mt ["signs", "one", "other"] := ⟨f_p_mt, _, F_p_mt, PySem.W.mg_of X G a_p_mt, b_p_mt⟩
  have F_p_tm := fun_mk (st := s_p_tm) l_p_tm c_p_tm k_p_tm
  have b_p_tm := F_p_tm.binds (ps := ["signs", "table", "key"]) fun _ _ _ _ _ _ us hl => match us, hl with | [_, _, _], _ => rfl
  have D_p_tm : Df K mg "turned_moves" s_p_tm ["signs", "table", "key"] := ⟨f_p_tm, _, F_p_tm, PySem.W.mg_of X G a_p_tm, b_p_tm⟩
  have F_p_tt := fun_mk (st := s_p_tt) l_p_tt c_p_tt k_p_tt
  have b_p_tt := F_p_tt.binds (ps := ["signs", "table"]) fun _ _ _ _ _ _ us hl => match us, hl with | [_, _], _ => rfl
  have D_p_tt : Df K mg "turned_table" s_p_tt ["signs", "table"] := ⟨f_p_tt, _, F_p_tt, PySem.W.mg_of X G a_p_tt, b_p_tt⟩
  have F_p_table := fun_mk (st := s_p_table) l_p_table c_p_table k_p_table
  have b_p_table := F_p_table.binds (ps := ["rule"]) fun _ _ _ _ _ _ us hl => match us, hl with | [_], _ => rfl
  have D_p_table : Df K mg "table_of" s_p_table ["rule"] := ⟨f_p_table, _, F_p_table, PySem.W.mg_of X G a_p_table, b_p_table⟩
  have F_p_rule := fun_mk (st := s_p_rule) l_p_rule c_p_rule k_p_rule
  have b_p_rule := F_p_rule.binds (ps := ["signs", "table"]) fun _ _ _ _ _ _ us hl => match us, hl with | [_, _], _ => rfl
  have D_p_rule : Df K mg "rule_of" s_p_rule ["signs", "table"] := ⟨f_p_rule, _, F_p_rule, PySem.W.mg_of X G a_p_rule, b_p_rule⟩
  have F_p_like := fun_mk (st := s_p_like) l_p_like c_p_like k_p_like
  have b_p_like := F_p_like.binds (ps := ["rule", "other"]) fun _ _ _ _ _ _ us hl => match us, hl with | [_, _], _ => rfl
  have D_p_like : Df K mg "require_like" s_p_like ["rule", "other"] := ⟨f_p_like, _, F_p_like, PySem.W.mg_of X G a_p_like, b_p_like⟩
  have TI_both_right := tab_mk (st := s_both_right) a_both_right l_both_right lc_both_right vc_both_right
  obtain ⟨CH_both_right, EM_both_right⟩ := HH _ _ _ r_both_right TI_both_right
  have OF_both_right := noTab_of X nt EM_both_right
  have F_both_right := fun_mk (st := s_both_right) l_both_right c_both_right k_both_right
  have b_both_right := F_both_right.binds (ps := ["one", "other", "signs", "first", "second"]) fun _ _ _ _ _ _ us hl => match us, hl with | [_, _, _, _, _], _ => rfl
  have D_both_right : DfC K mg "_law_both_right" s_both_right ["one", "other", "signs", "first", "second"] c_o_both_right := ⟨f_both_right, _, _, _, _, _, _, _, _, l_both_right, c_both_right, k_both_right, PySem.W.mg_of X G a_both_right, b_both_right⟩
  have TI_made_right := tab_mk (st := s_made_right) a_made_right l_made_right lc_made_right vc_made_right
  obtain ⟨CH_made_right, EM_made_right⟩ := HH _ _ _ r_made_right TI_made_right
  have OF_made_right := noTab_of X nt EM_made_right
  have F_made_right := fun_mk (st := s_made_right) l_made_right c_made_right k_made_right
  have b_made_right := F_made_right.binds (ps := ["feed"]) fun _ _ _ _ _ _ us hl => match us, hl with | [_], _ => rfl
  have D_made_right : DfC K mg "_law_made_right" s_made_right ["feed"] c_o_made_right := ⟨f_made_right, _, _, _, _, _, _, _, _, l_made_right, c_made_right, k_made_right, PySem.W.mg_of X G a_made_right, b_made_right⟩
  have TI_law := tab_mk (st := s_law) a_law l_law lc_law vc_law
  obtain ⟨CH_law, EM_law⟩ := HH _ _ _ r_law TI_law
  have OF_law := noTab_of X nt EM_law
  have F_law := fun_mk (st := s_law) l_law c_law k_law
  have b_law := F_law.binds (ps := ["script"]) fun _ _ _ _ _ _ us hl => match us, hl with | [_], _ => rfl
  have T : Bs mg := ⟨PySem.W.mg_none_of X G z_len, PySem.W.mg_none_of X G z_int, PySem.W.mg_none_of X G z_abs, PySem.W.mg_none_of X G z_max, PySem.W.mg_none_of X G z_min, PySem.W.mg_none_of X G z_list, PySem.W.mg_none_of X G z_tuple, PySem.W.mg_none_of X G z_range, PySem.W.mg_none_of X G z_sorted, PySem.W.mg_none_of X G z_isinstance, PySem.W.mg_none_of X G z_str, PySem.W.mg_none_of X G z_all, PySem.W.mg_none_of X G z_zip, PySem.W.mg_none_of X G z_set, PySem.W.mg_none_of X G z_repr, PySem.W.mg_none_of X G z_dict⟩
  have GG : Gs mg := ⟨⟨_, PySem.W.mg_of X G g_MAX_SIGNS⟩, ⟨t_GREATEST, (PySem.W.mg_of X G g_GREATEST).trans (congrArg (fun z => some (Value.int z t_GREATEST)) (by decide +kernel))⟩, ⟨_, PySem.W.mg_of X G g_LETTERS⟩, ⟨_, PySem.W.mg_of X G g_MAX_STATES⟩, ⟨_, PySem.W.mg_of X G g_DEAD⟩⟩
  have T_bool : mg "bool" = none := PySem.W.mg_none_of X G z_bool
  have T_enumerate : mg "enumerate" = none := PySem.W.mg_none_of X G z_enumerate
  have T_super : mg "super" = none := PySem.W.mg_none_of X G z_super
  have F_pr_signs := fun_mk (st := s_m_signs) l_pr_signs c_pr_signs k_pr_signs
  have b_pr_signs := F_pr_signs.binds (ps := ["self"]) fun _ _ _ _ _ _ us hl => match us, hl with | [_], _ => rfl
  have F_pr_states := fun_mk (st := s_m_states) l_pr_states c_pr_states k_pr_states
  have b_pr_states := F_pr_states.binds (ps := ["self"]) fun _ _ _ _ _ _ us hl => match us, hl with | [_], _ => rfl
  have F_c_of_words := fun_mk (st := s_m_of_words) l_c_of_words c_c_of_words k_c_of_words
  have b_c_of_words := F_c_of_words.binds (ps := ["cls", "signs", "words"]) fun _ _ _ _ _ _ us hl => match us, hl with | [_, _, _], _ => rfl
  have F_c_counting := fun_mk (st := s_m_counting) l_c_counting c_c_counting k_c_counting
  have b_c_counting := F_c_counting.binds (ps := ["cls", "signs", "counted", "by", "rest"]) fun _ _ _ _ _ _ us hl => match us, hl with | [_, _, _, _, _], _ => rfl
  have F_init := fun_mk (st := s_m_init) l_init c_init k_init
  have b_init := F_init.binds (ps := ["self", "signs", "states"]) fun _ _ _ _ _ _ us hl => match us, hl with | [_, _, _], _ => rfl
  have F_m_is_kept_by := fun_mk (st := s_m_is_kept_by) l_m_is_kept_by c_m_is_kept_by k_m_is_kept_by
  have b_m_is_kept_by := F_m_is_kept_by.binds (ps := ["self", "word"]) fun _ _ _ _ _ _ us hl => match us, hl with | [_, _], _ => rfl
  have F_m_call := fun_mk (st := s_m_call) l_m_call c_m_call k_m_call
  have b_m_call := F_m_call.binds (ps := ["self", "word"]) fun _ _ _ _ _ _ us hl => match us, hl with | [_, _], _ => rfl
  have F_m_contains := fun_mk (st := s_m_contains) l_m_contains c_m_contains k_m_contains
  have b_m_contains := F_m_contains.binds (ps := ["self", "value"]) fun _ _ _ _ _ _ us hl => match us, hl with | [_, _], _ => rfl
  have F_m_and := fun_mk (st := s_m_and) l_m_and c_m_and k_m_and
  have b_m_and := F_m_and.binds (ps := ["self", "other"]) fun _ _ _ _ _ _ us hl => match us, hl with | [_, _], _ => rfl
  have F_m_or := fun_mk (st := s_m_or) l_m_or c_m_or k_m_or
  have b_m_or := F_m_or.binds (ps := ["self", "other"]) fun _ _ _ _ _ _ us hl => match us, hl with | [_, _], _ => rfl
  have F_m_negated := fun_mk (st := s_m_negated) l_m_negated c_m_negated k_m_negated
  have b_m_negated := F_m_negated.binds (ps := ["self"]) fun _ _ _ _ _ _ us hl => match us, hl with | [_], _ => rfl
  have F_m_eq := fun_mk (st := s_m_eq) l_m_eq c_m_eq k_m_eq
  have b_m_eq := F_m_eq.binds (ps := ["self", "other"]) fun _ _ _ _ _ _ us hl => match us, hl with | [_, _], _ => rfl
  have F_m_len := fun_mk (st := s_m_len) l_m_len c_m_len k_m_len
  have b_m_len := F_m_len.binds (ps := ["self"]) fun _ _ _ _ _ _ us hl => match us, hl with | [_], _ => rfl
  have F_m_str := fun_mk (st := s_m_str) l_m_str c_m_str k_m_str
  have b_m_str := F_m_str.binds (ps := ["self"]) fun _ _ _ _ _ _ us hl => match us, hl with | [_], _ => rfl
  have D_p_word : DfD K mg "is_word_of" s_p_word ["signs", "value", "most"] := dfd_mk (PySem.W.mg_of X G a_p_word) l_p_word lT_p_word c_p_word k_p_word (fun _ _ _ _ _ _ _ us its h1 h2 => match us, its, h1, h2 with | [_, _, _], [_], _, _ => ⟨_, rfl, rfl⟩) (fun _ _ _ _ _ _ _ us its h1 h2 => match us, its, h1, h2 with | [_, _], [_], _, _ => ⟨_, rfl, rfl⟩)
  have TX : TMx l.prog K mg TM := { ex := ⟨f_ti, { base := PySem.F.excBase_OverflowError, kxs := PySem.W.kxs_OverflowError, store := PySem.F.store_OverflowError, ex := tm_ex, over := tm_ov, init := tm_in, tyI := tm_ty, sup := tm_su, subB := tm_sb, subE := tm_be, selfIn := tm_se, tyC := tm_tc, sa := tm_sa, tk := tm_tk, dct := tm_di, opq := tm_op, kC := tm_kC, ms := T_super, top := tm_top, fn := ⟨_, _, _, _, _, _, _, _, _, _, _, _, _, _, _, _, _, _, _, _, tm_l, tm_c, tm_lc, tm_v, tm_fe, tm_cc, .all tm_bi⟩ }⟩, b := supB, g := PySem.W.mg_of X G nT }
  have Y : TMy K mg TM := ⟨PySem.W.mg_of X G nT, ⟨tm_ga, tm_gg, tm_be, tm_di⟩, tm_no, exm_self tm_be tm_ic tm_tc tm_ss⟩
  have Z : Rx K mg C := { gC := PySem.W.mg_of X G nC, sc := ⟨pg, ic, po, sa⟩, si := ⟨si1, si2, si3, si4⟩, t0 := ⟨p0, w0, w0g, w0k, w0t, w0i, by decide⟩, t1 := ⟨p1, w1, w1g, w1k, w1t, w1i, by decide⟩, t2 := ⟨p2, w2, w2g, w2k, w2t, w2i, by decide⟩, kk := kit_self, kt := kit_tup ic tC sT, sf := sf, nf := nf, nt := nt9 }
  have M : L2.Mk K C f_init := ⟨mk, a_init, i_init, kC⟩
  have NE : NeF K C := ⟨nmC, qC, NC, bsC, hdC, snC, subC, abC, colC, ddC, k0C, k1C, k2C, k3C, k5C, newC, f_m_eq, l_C, nsC, nsEq, nsNe, fn_cls i_m_eq, a_m_eq⟩
  have tabsAll : ∀ {S : Addr × Str → Prop}, S (Q_both_right, lamN "_law_both_right") → S (Q_made_right, lamN "_law_made_right") → S (Q_law, lamN "law") → ∀ p ∈ ([(Q_both_right, lamN "_law_both_right"), (Q_made_right, lamN "_law_made_right"), (Q_law, lamN "law")] : List (Addr × Str)), S p := by
    intro S s0 s1 s2 p hp
    simp only [List.mem_cons, List.not_mem_nil, or_false] at hp
    rcases hp with rfl | rfl | rfl
    · exact s0
    · exact s1
    · exact s2
  have csAll : ∀ {S : Addr × Addr → Prop}, S (c_o_both_right, Q_both_right) → S (c_o_made_right, Q_made_right) → S (c_o_law, Q_law) → ∀ p ∈ ([(c_o_both_right, Q_both_right), (c_o_made_right, Q_made_right), (c_o_law, Q_law)] : List (Addr × Addr)), S p := by
    intro S s0 s1 s2 p hp
    simp only [List.mem_cons, List.not_mem_nil, or_false] at hp
    rcases hp with rfl | rfl | rfl
    · exact s0
    · exact s1
    · exact s2
  have hu_both_right : ∀ p ∈ ([(Q_both_right, lamN "_law_both_right"), (Q_made_right, lamN "_law_made_right"), (Q_law, lamN "law")] : List (Addr × Str)), p.1 = Q_both_right → p.2 = lamN "_law_both_right" := tabsAll (S := fun p => p.1 = Q_both_right → p.2 = lamN "_law_both_right") (fun _ => rfl) (fun z => absurd z.symm ne_both_right_made_right) (fun z => absurd z.symm ne_both_right_law)
  have hT_both_right : (Q_both_right, lamN "_law_both_right") ∈ ([(Q_both_right, lamN "_law_both_right"), (Q_made_right, lamN "_law_made_right"), (Q_law, lamN "law")] : List (Addr × Str)) := by simp only [List.mem_cons, true_or, or_true]
  have hC_both_right : (c_o_both_right, Q_both_right) ∈ ([(c_o_both_right, Q_both_right), (c_o_made_right, Q_made_right), (c_o_law, Q_law)] : List (Addr × Addr)) := by simp only [List.mem_cons, true_or, or_true]
  have hu_made_right : ∀ p ∈ ([(Q_both_right, lamN "_law_both_right"), (Q_made_right, lamN "_law_made_right"), (Q_law, lamN "law")] : List (Addr × Str)), p.1 = Q_made_right → p.2 = lamN "_law_made_right" := tabsAll (S := fun p => p.1 = Q_made_right → p.2 = lamN "_law_made_right") (fun z => absurd z ne_both_right_made_right) (fun _ => rfl) (fun z => absurd z.symm ne_made_right_law)
  have hT_made_right : (Q_made_right, lamN "_law_made_right") ∈ ([(Q_both_right, lamN "_law_both_right"), (Q_made_right, lamN "_law_made_right"), (Q_law, lamN "law")] : List (Addr × Str)) := by simp only [List.mem_cons, true_or, or_true]
  have hC_made_right : (c_o_made_right, Q_made_right) ∈ ([(c_o_both_right, Q_both_right), (c_o_made_right, Q_made_right), (c_o_law, Q_law)] : List (Addr × Addr)) := by simp only [List.mem_cons, true_or, or_true]
  have hu_law : ∀ p ∈ ([(Q_both_right, lamN "_law_both_right"), (Q_made_right, lamN "_law_made_right"), (Q_law, lamN "law")] : List (Addr × Str)), p.1 = Q_law → p.2 = lamN "law" := tabsAll (S := fun p => p.1 = Q_law → p.2 = lamN "law") (fun z => absurd z ne_both_right_law) (fun z => absurd z ne_made_right_law) (fun _ => rfl)
  have hT_law : (Q_law, lamN "law") ∈ ([(Q_both_right, lamN "_law_both_right"), (Q_made_right, lamN "_law_made_right"), (Q_law, lamN "law")] : List (Addr × Str)) := by simp only [List.mem_cons, true_or, or_true]
  have hC_law : (c_o_law, Q_law) ∈ ([(c_o_both_right, Q_both_right), (c_o_made_right, Q_made_right), (c_o_law, Q_law)] : List (Addr × Addr)) := by simp only [List.mem_cons, true_or, or_true]
  refine ⟨PySem.W.fnOf "law" "law" (defArgs s_law) (defBody s_law) (defScope s_law) .none kv_law dc_law pm_law an_law (.ref c_o_law) ct_law, [(c_o_both_right, Q_both_right), (c_o_made_right, Q_made_right), (c_o_law, Q_law)], spLaw K [(Q_both_right, lamN "_law_both_right"), (Q_made_right, lamN "_law_made_right"), (Q_law, lamN "law")], csAll EM_both_right EM_made_right EM_law, csAll OF_both_right OF_made_right OF_law, csAll CH_both_right CH_made_right CH_law, fun s v => .of_eq rfl, fun H a ns hl ht hs => ⟨a, ns, rfl, hs, hl, tabsAll (TabS.nil (ht _ hC_both_right)) (TabS.nil (ht _ hC_made_right)) (TabS.nil (ht _ hC_law)), fun _ => rfl⟩, fun base _ _ TBs => ?_⟩
  have TB_both_right := TBs _ hC_both_right
  have TB_made_right := TBs _ hC_made_right
  have TB_law := TBs _ hC_law
  have C_p_int := cal_p_int (P := l.prog) (w := w) (base := base) T T_bool GG D_p_int
  have C_p_signs := cal_p_signs (P := l.prog) (w := w) (base := base) T GG D_p_signs
  have C_p_word := cal_p_word (P := l.prog) (w := w) (base := base) T D_p_word
  have C_p_req := cal_p_req D_p_req C_p_signs
  have C_p_state := cal_p_state T T_bool D_p_state C_p_int
  have C_p_states := cal_p_states T GG D_p_states C_p_state
  have R_init2 := fnr_of (fn_init2 Z F_init C_p_req C_p_states) b_init
  have R_init := fnr_of (fn_init Z F_init C_p_req C_p_states) b_init
  have C_p_lim := cal_p_lim (P := l.prog) (w := w) (base := base) T GG TX D_p_lim
  have C_p_mm := cal_p_mm (P := l.prog) (w := w) (base := base) D_p_mm
  have C_p_mt := cal_p_mt T D_p_mt C_p_mm C_p_lim
  have C_p_tm := cal_p_tm (P := l.prog) (w := w) (base := base) GG D_p_tm
  have C_p_tt := cal_p_tt T GG D_p_tt C_p_tm C_p_lim
  have C_p_table := cal_p_table (P := l.prog) (w := w) (base := base) Z D_p_table
  have C_p_like := cal_p_like (P := l.prog) (w := w) (base := base) T Z D_p_like
  have C_p_rule := cal_p_rule T Z D_p_rule M R_init
  have G_is_kept_by := fn_kept (P := l.prog) (w := w) (base := base) Z F_m_is_kept_by
  have M_kept : MthP l.prog w K mg base CX0 C "is_kept_by" 2 (spKept C) := ⟨⟨f_m_is_kept_by, ⟨a_m_is_kept_by, i_m_is_kept_by, k_m_is_kept_by⟩, fnr_of G_is_kept_by b_m_is_kept_by⟩⟩
  have G_call := fn_call Z F_m_call C_p_word M_kept
  have CL : ClP l.prog w K mg base C 3 (spCall C) := ⟨⟨f_m_call, ⟨a_m_call, i_m_call, fi_call⟩, fnr_of G_call b_m_call⟩⟩
  have G_contains := fn_contains Z F_m_contains C_p_word M_kept
  have M_contains : Mth l.prog w K mg base CX0 C "__contains__" 3 (spCont C) := ⟨⟨f_m_contains, _, _, a_m_contains, i_m_contains, k_m_contains, b_m_contains, .of G_contains⟩⟩
  have G_len := fn_len (P := l.prog) (w := w) (base := base) T Z F_m_len
  have M_len : Mth l.prog w K mg base CX0 C "__len__" 1 (spLen C) := ⟨⟨f_m_len, _, _, a_m_len, i_m_len, k_m_len, b_m_len, .of G_len⟩⟩
  have G_str := fn_str (P := l.prog) (w := w) (base := base) T Z F_m_str
  have M_str : Mth l.prog w K mg base CX0 C "__str__" 1 (spStr C) := ⟨⟨f_m_str, _, _, a_m_str, i_m_str, k_m_str, b_m_str, .of G_str⟩⟩
  have P_signs : PrP l.prog w K mg base C "signs" 1 (spSigns C) := ⟨⟨q0, f_pr_signs, u0, u0g, u0k, ⟨_, a_pr_signs⟩, fnr_of (fn_signs Z F_pr_signs) b_pr_signs⟩⟩
  have P_states : PrP l.prog w K mg base C "states" 1 (spSt C) := ⟨⟨q1, f_pr_states, u1, u1g, u1k, ⟨_, a_pr_states⟩, fnr_of (fn_states T Z F_pr_states) b_pr_states⟩⟩
  have G_eq := fn_eq (P := l.prog) (w := w) (base := base) T Z F_m_eq
  have M_eq : Mth l.prog w K mg base CX0 C "__eq__" 2 (spEq C) := ⟨⟨f_m_eq, _, _, a_m_eq, i_m_eq, k_m_eq, b_m_eq, (FnG.of G_eq).more (by decide)⟩⟩
  have G_and := fn_and Z F_m_and C_p_like C_p_rule C_p_mt C_p_tt C_p_table
  have O_and : OpP l.prog w K mg base (L2.CX l.prog w) C .BitAnd 7 (spAnd C TM) := ⟨⟨f_m_and, a_m_and, i_m_and, fnr_of G_and b_m_and⟩⟩
  have G_or := fn_or Z F_m_or C_p_like C_p_rule C_p_mt C_p_tt C_p_table
  have O_or : OpP l.prog w K mg base (L2.CX l.prog w) C .BitOr 7 (spOr C TM) := ⟨⟨f_m_or, a_m_or, i_m_or, fnr_of G_or b_m_or⟩⟩
  have G_negated := fn_negated Z F_m_negated C_p_like C_p_rule C_p_mt C_p_tt C_p_table
  have M_negated : MthP l.prog w K mg base (L2.CX l.prog w) C "negated" 7 (spNeg C TM) := ⟨⟨f_m_negated, ⟨a_m_negated, i_m_negated, k_m_negated⟩, fnr_of G_negated b_m_negated⟩⟩
  have G_counting := fn_counting T GG Z F_c_counting C_p_req C_p_int M R_init
  have M_counting : CmP l.prog w K mg base CX0 C "counting" 6 (spCount C) := ⟨⟨cm1, f_c_counting, .type "type", ⟨cr1, cr2⟩, ⟨v1, ⟨_, a_c_counting⟩, fi_counting⟩, fnr_of G_counting b_c_counting⟩⟩
  have G_of_words := fn_of_words T GG T_enumerate Z TX F_c_of_words C_p_req C_p_word M R_init
  have M_of_words : CmP l.prog w K mg base (L2.CX l.prog w) C "of_words" 6 (spOfW C TM) := ⟨⟨cm0, f_c_of_words, .type "type", ⟨cr1, cr2⟩, ⟨v0, ⟨_, a_c_of_words⟩, fi_of_words⟩, fnr_of G_of_words b_c_of_words⟩⟩
  have C_take := cal_take (P := l.prog) (w := w) (base := base) T D_take
  have C_pick := cal_pick T D_pick C_take
  have C_feed := cal_feed (P := l.prog) (w := w) (base := base) T D_feed
  have C_states := cal_states T D_states C_take
  have C_keeps := cal_keeps (P := l.prog) (w := w) (base := base) D_keeps
  have C_words := cal_words (P := l.prog) (w := w) (base := base) T D_words
  have C_is_told := cal_is_told T Z D_is_told C_keeps P_signs P_states M_len M_str M_contains CL
  have C_met := cal_met (P := l.prog) (w := w) (base := base) T D_met
  have C_turned := cal_turned (P := l.prog) (w := w) (base := base) T D_turned
  have C_both := cal_both T Z Y D_both_right D_made C_met C_turned P_states O_and O_or M_negated TB_both_right hT_both_right hu_both_right
  have C_right := cal_right T Z NE D_right C_pick C_states C_words C_is_told C_both M R_init P_states M_eq
  have C_made_right := cal_made_right T Z Y D_made_right D_made C_take C_pick C_words P_states M_of_words M_counting TB_made_right hT_made_right hu_made_right
  exact fng_law l_law c_law T GG Z Y D_made C_feed C_right C_made_right M R_init2 P_states M_of_words M_counting M_negated M_len M_str M_contains CL TB_law hT_law hu_law
theorem walk_law {l : PySem.W.OpenLaw} {q : Program} {loose : List Str} {XP : (Str → Option Value) → Heap → Prop} {YP : World → Heap → Prop} {d : DefRec} {K : Params → PySem.W.Frag} (hn : l.most = some 63) (hdf : d.params.defaults = []) (hY : ∀ (w : World) (h : Heap), YP w h → (K w.params).In h)
    (F : ∀ (w : World) (mg : Str → Option Value) (fa : Addr) (h : Heap), (K w.params).In h → h.Ns mainGlobals mg → mg d.name = some (.ref fa) →
      (∀ (y : Str) (c Q : Addr), ((recsOf q).any fun e => e.name == y) = true → PySem.W.tabIn (K w.params) y = some (c, Q) → PySem.W.CodeHd h c Q ∧ h.get? Q = some (PySem.W.tabObj #[])) → LawG l w (K w.params) 12 63 "script" mg fa h) : PySem.W.WalkO q loose XP YP l.row.toRowW d [] (fun f vs => PySem.call f vs) :=
  walk_gT hn (by decide) hdf ⟨rfl, by decide, by decide⟩ hY F
end Fs
open PySem PySem.W PyProof.Rows in
set_option maxRecDepth 100000 in
set_option maxHeartbeats 0 in
theorem PySem.Challenge.cw_fewersteps_k50_rules_told_holds : PySem.Challenge.rw_fewersteps_k50_rules_told.Holds := by
  w_on; o_law; k_head; (case hw => w_witness2)
  k_fill
  refine Fs.walk_law (l := PySem.Challenge.rw_fewersteps_k50_rules_told) rfl rfl (fun w h Y => Y.1) ?F
  case F =>
    intro w mg fa h KX G hmg HH
    refine' Fs.all_mk KX G hmg HH ?nt ?a_feed ?l_feed ?c_feed ?k_feed ?a_take ?l_take ?c_take ?k_take ?a_pick ?l_pick ?c_pick ?k_pick ?a_states ?l_states ?c_states ?k_states ?a_keeps ?l_keeps ?c_keeps ?k_keeps ?a_words ?l_words ?c_words ?k_words ?a_is_told ?l_is_told ?c_is_told ?k_is_told ?a_met ?l_met ?c_met ?k_met ?a_turned ?l_turned ?c_turned ?k_turned ?a_made ?l_made ?c_made ?k_made ?a_right ?l_right ?c_right ?k_right ?a_p_int ?l_p_int ?c_p_int ?k_p_int ?a_p_signs ?l_p_signs ?c_p_signs ?k_p_signs ?a_p_state ?l_p_state ?c_p_state ?k_p_state ?a_p_states ?l_p_states ?c_p_states ?k_p_states ?a_p_req ?l_p_req ?c_p_req ?k_p_req ?a_p_lim ?l_p_lim ?c_p_lim ?k_p_lim ?a_p_mm ?l_p_mm ?c_p_mm ?k_p_mm ?a_p_mt ?l_p_mt ?c_p_mt ?k_p_mt ?a_p_tm ?l_p_tm ?c_p_tm ?k_p_tm ?a_p_tt ?l_p_tt ?c_p_tt ?k_p_tt ?a_p_table ?l_p_table ?c_p_table ?k_p_table ?a_p_rule ?l_p_rule ?c_p_rule ?k_p_rule ?a_p_like ?l_p_like ?c_p_like ?k_p_like ?a_both_right ?l_both_right ?c_both_right ?lc_both_right ?vc_both_right ?r_both_right ?k_both_right ?a_made_right ?l_made_right ?c_made_right ?lc_made_right ?vc_made_right ?r_made_right ?k_made_right ?a_law ?l_law ?c_law ?lc_law ?vc_law ?r_law ?k_law ?z_len ?z_int ?z_abs ?z_max ?z_min ?z_list ?z_tuple ?z_range ?z_sorted ?z_isinstance ?z_str ?z_all ?z_zip ?z_set ?z_repr ?z_dict ?g_MAX_SIGNS ?g_GREATEST ?g_LETTERS ?g_MAX_STATES ?g_DEAD ?z_bool ?z_enumerate ?z_super ?nC ?nT ?pg ?ic ?po ?sa ?mk ?kC ?tC ?sT ?si1 ?si2 ?si3 ?si4 ?sf ?nf ?nt9 ?l_C ?nsC ?nsNe ?w0 ?w0g ?w0k ?w0t ?w0i ?w1 ?w1g ?w1k ?w1t ?w1i ?w2 ?w2g ?w2k ?w2t ?w2i ?u0 ?u0g ?u0k ?a_pr_signs ?l_pr_signs ?c_pr_signs ?k_pr_signs ?u1 ?u1g ?u1k ?a_pr_states ?l_pr_states ?c_pr_states ?k_pr_states ?cr1 ?cr2 ?v0 ?a_c_of_words ?l_c_of_words ?c_c_of_words ?k_c_of_words ?fi_of_words ?v1 ?a_c_counting ?l_c_counting ?c_c_counting ?k_c_counting ?fi_counting ?a_init ?l_init ?c_init ?k_init ?i_init ?a_m_is_kept_by ?l_m_is_kept_by ?c_m_is_kept_by ?k_m_is_kept_by ?i_m_is_kept_by ?a_m_call ?l_m_call ?c_m_call ?k_m_call ?i_m_call ?a_m_contains ?l_m_contains ?c_m_contains ?k_m_contains ?i_m_contains ?a_m_and ?l_m_and ?c_m_and ?k_m_and ?i_m_and ?a_m_or ?l_m_or ?c_m_or ?k_m_or ?i_m_or ?a_m_negated ?l_m_negated ?c_m_negated ?k_m_negated ?i_m_negated ?a_m_eq ?l_m_eq ?c_m_eq ?k_m_eq ?i_m_eq ?a_m_len ?l_m_len ?c_m_len ?k_m_len ?i_m_len ?a_m_str ?l_m_str ?c_m_str ?k_m_str ?i_m_str ?fi_call ?nsEq ?a_p_word ?l_p_word ?lT_p_word ?c_p_word ?k_p_word ?tm_ex ?tm_ov ?tm_in ?tm_ty ?tm_su ?tm_sb ?tm_be ?tm_se ?tm_tc ?tm_sa ?tm_tk ?tm_di ?tm_op ?tm_kC ?tm_top ?tm_l ?tm_c ?tm_lc ?tm_v ?tm_fe ?tm_cc ?tm_bi ?tm_ga ?tm_gg ?tm_no ?tm_ic ?tm_ss ?ne_both_right_made_right ?ne_both_right_law ?ne_made_right_law
    (case nt => kernel_rfl)
    (case a_feed => k_is); (case l_feed => k_is); (case c_feed => k_is); (case k_feed => k_is)
    (case a_take => k_is); (case l_take => k_is); (case c_take => k_is); (case k_take => k_is)
    (case a_pick => k_is); (case l_pick => k_is); (case c_pick => k_is); (case k_pick => k_is)
    (case a_states => k_is); (case l_states => k_is); (case c_states => k_is); (case k_states => k_is)
    (case a_keeps => k_is); (case l_keeps => k_is); (case c_keeps => k_is); (case k_keeps => k_is)
    (case a_words => k_is); (case l_words => k_is); (case c_words => k_is); (case k_words => k_is)
    (case a_is_told => k_is); (case l_is_told => k_is); (case c_is_told => k_is); (case k_is_told => k_is)
    (case a_met => k_is); (case l_met => k_is); (case c_met => k_is); (case k_met => k_is)
    (case a_turned => k_is); (case l_turned => k_is); (case c_turned => k_is); (case k_turned => k_is)
    (case a_made => k_is); (case l_made => k_is); (case c_made => k_is); (case k_made => k_is)
    (case a_right => k_is); (case l_right => k_is); (case c_right => k_is); (case k_right => k_is)
    (case a_p_int => k_is); (case l_p_int => k_is); (case c_p_int => k_is); (case k_p_int => k_is)
    (case a_p_signs => k_is); (case l_p_signs => k_is); (case c_p_signs => k_is); (case k_p_signs => k_is)
    (case a_p_state => k_is); (case l_p_state => k_is); (case c_p_state => k_is); (case k_p_state => k_is)
    (case a_p_states => k_is); (case l_p_states => k_is); (case c_p_states => k_is); (case k_p_states => k_is)
    (case a_p_req => k_is); (case l_p_req => k_is); (case c_p_req => k_is); (case k_p_req => k_is)
    (case a_p_lim => k_is); (case l_p_lim => k_is); (case c_p_lim => k_is); (case k_p_lim => k_is)
    (case a_p_mm => k_is); (case l_p_mm => k_is); (case c_p_mm => k_is); (case k_p_mm => k_is)
    (case a_p_mt => k_is); (case l_p_mt => k_is); (case c_p_mt => k_is); (case k_p_mt => k_is)
    (case a_p_tm => k_is); (case l_p_tm => k_is); (case c_p_tm => k_is); (case k_p_tm => k_is)
    (case a_p_tt => k_is); (case l_p_tt => k_is); (case c_p_tt => k_is); (case k_p_tt => k_is)
    (case a_p_table => k_is); (case l_p_table => k_is); (case c_p_table => k_is); (case k_p_table => k_is)
    (case a_p_rule => k_is); (case l_p_rule => k_is); (case c_p_rule => k_is); (case k_p_rule => k_is)
    (case a_p_like => k_is); (case l_p_like => k_is); (case c_p_like => k_is); (case k_p_like => k_is)
    (case a_both_right => k_is); (case l_both_right => k_is); (case c_both_right => k_is); (case lc_both_right => k_is)
    (case vc_both_right => exact rfl); (case r_both_right => first | kernel_rfl | exact rfl); (case k_both_right => k_is); (case a_made_right => k_is)
    (case l_made_right => k_is); (case c_made_right => k_is); (case lc_made_right => k_is); (case vc_made_right => exact rfl)
    (case r_made_right => first | kernel_rfl | exact rfl); (case k_made_right => k_is); (case a_law => k_is); (case l_law => k_is)
    (case c_law => k_is); (case lc_law => k_is); (case vc_law => exact rfl); (case r_law => first | kernel_rfl | exact rfl)
    (case k_law => k_is); (case z_len => k_is); (case z_int => k_is); (case z_abs => k_is)
    (case z_max => k_is); (case z_min => k_is); (case z_list => k_is); (case z_tuple => k_is)
    (case z_range => k_is); (case z_sorted => k_is); (case z_isinstance => k_is); (case z_str => k_is)
    (case z_all => k_is); (case z_zip => k_is); (case z_set => k_is); (case z_repr => k_is)
    (case z_dict => k_is); (case g_MAX_SIGNS => k_is); (case g_GREATEST => k_is); (case g_LETTERS => k_is)
    (case g_MAX_STATES => k_is); (case g_DEAD => k_is); (case z_bool => k_is); (case z_enumerate => k_is)
    (case z_super => k_is); (case nC => k_is); (case nT => k_is); (case pg => k_is)
    (case ic => k_is); (case po => k_is); (case sa => k_is); (case mk => k_is)
    (case kC => k_is); (case tC => k_is); (case sT => k_is); (case si1 => k_is)
    (case si2 => k_is); (case si3 => k_is); (case si4 => k_is); (case sf => k_is)
    (case nf => k_is); (case nt9 => k_is); (case l_C => k_is); (case nsC => first | kernel_rfl | exact rfl)
    (case nsNe => k_is); (case w0 => k_is); (case w0g => k_is); (case w0k => k_is)
    (case w0t => k_is); (case w0i => k_is); (case w1 => k_is); (case w1g => k_is)
    (case w1k => k_is); (case w1t => k_is); (case w1i => k_is); (case w2 => k_is)
    (case w2g => k_is); (case w2k => k_is); (case w2t => k_is); (case w2i => k_is)
    (case u0 => k_is); (case u0g => k_is); (case u0k => k_is); (case a_pr_signs => k_is)
    (case l_pr_signs => k_is); (case c_pr_signs => k_is); (case k_pr_signs => k_is); (case u1 => k_is)
    (case u1g => k_is); (case u1k => k_is); (case a_pr_states => k_is); (case l_pr_states => k_is)
    (case c_pr_states => k_is); (case k_pr_states => k_is); (case cr1 => k_is); (case cr2 => k_is)
    (case v0 => k_is); (case a_c_of_words => k_is); (case l_c_of_words => k_is); (case c_c_of_words => k_is)
    (case k_c_of_words => k_is); (case fi_of_words => k_is); (case v1 => k_is); (case a_c_counting => k_is)
    (case l_c_counting => k_is); (case c_c_counting => k_is); (case k_c_counting => k_is); (case fi_counting => k_is)
    (case a_init => k_is); (case l_init => k_is); (case c_init => k_is); (case k_init => k_is)
    (case i_init => k_is); (case a_m_is_kept_by => k_is); (case l_m_is_kept_by => k_is); (case c_m_is_kept_by => k_is)
    (case k_m_is_kept_by => k_is); (case i_m_is_kept_by => k_is); (case a_m_call => k_is); (case l_m_call => k_is)
    (case c_m_call => k_is); (case k_m_call => k_is); (case i_m_call => k_is); (case a_m_contains => k_is)
    (case l_m_contains => k_is); (case c_m_contains => k_is); (case k_m_contains => k_is); (case i_m_contains => k_is)
    (case a_m_and => k_is); (case l_m_and => k_is); (case c_m_and => k_is); (case k_m_and => k_is)
    (case i_m_and => k_is); (case a_m_or => k_is); (case l_m_or => k_is); (case c_m_or => k_is)
    (case k_m_or => k_is); (case i_m_or => k_is); (case a_m_negated => k_is); (case l_m_negated => k_is)
    (case c_m_negated => k_is); (case k_m_negated => k_is); (case i_m_negated => k_is); (case a_m_eq => k_is)
    (case l_m_eq => k_is); (case c_m_eq => k_is); (case k_m_eq => k_is); (case i_m_eq => k_is)
    (case a_m_len => k_is); (case l_m_len => k_is); (case c_m_len => k_is); (case k_m_len => k_is)
    (case i_m_len => k_is); (case a_m_str => k_is); (case l_m_str => k_is); (case c_m_str => k_is)
    (case k_m_str => k_is); (case i_m_str => k_is); (case fi_call => k_is); (case nsEq => k_is)
    (case a_p_word => k_is); (case l_p_word => k_is); (case lT_p_word => k_is); (case c_p_word => k_is)
    (case k_p_word => k_is); (case tm_ex => kernel_rfl); (case tm_ov => kernel_rfl); (case tm_in => k_is)
    (case tm_ty => k_is); (case tm_su => kernel_rfl); (case tm_sb => k_is); (case tm_be => k_is)
    (case tm_se => k_is); (case tm_tc => k_is); (case tm_sa => k_is); (case tm_tk => k_is)
    (case tm_di => k_is); (case tm_op => k_is); (case tm_kC => k_is); (case tm_top => first | kernel_rfl | exact rfl | decide)
    (case tm_l => k_is); (case tm_c => k_is); (case tm_lc => k_is); (case tm_v => exact rfl)
    (case tm_fe => first | kernel_rfl | exact rfl | decide); (case tm_cc => k_is); (case tm_bi => exact fun us hl => match us, hl with | [_, _], _ => rfl); (case tm_ga => k_is)
    (case tm_gg => k_is); (case tm_no => k_is); (case tm_ic => k_is); (case tm_ss => k_is)
    (case ne_both_right_made_right => decide); (case ne_both_right_law => decide); (case ne_made_right_law => decide)
