import PyProof.Rows.All
import Wide.All
import OpenK.AllK
import Wide.FinOn
import KE.KStateDown
import KE.KOpsOwn
import HandS.ForMost
import HandS.Exc
import HandS.Defaults
import HandS.MakeKw
import HandS.Wide
import HandS.WideBits
import HandS.Gcd
import HandS.IsInst
import HandS.OwnEq
import HandS.StrMore
import HandS.Zip
import HandS.Rev
import HandS.HeadHook1
import HandS.HeadHook2
import KE.KExcIs
import HandS.Nested
import HandS.HotCalls
import HandS.ExcInit
import HandS.ExcField
import HandS.ExcCtx
import HandS.Hot
import HandS.Comp
import HandS.Iter
import KE.KSuper
import KE.KExcSuper
import HandS.ExcSuper
import HandS.ExcIs
import HandS.FStr
import HandS.Ends
import HandS.Head0
import HandS.Head1
import HandS.Head2
import HandS.Head3
import HandS.HeadEnd
import PySem.Challenge.RW_buriedsure_k76_ratios_beside_pairs
namespace Dg
/-- k decimal digits of n, with zeros ahead, as codes -/
def pad : Nat → Nat → List Nat
  | 0, _ => []
  | k + 1, n => pad k (n / 10) ++ [48 + n % 10]
def dg (n : Nat) : List Nat := (Nat.toDigits 10 n).map Char.toNat
theorem pad_len : ∀ (k n : Nat), (pad k n).length = k
  | 0, _ => rfl
  | k + 1, n => by
    show (pad k (n / 10) ++ [48 + n % 10]).length = k + 1
    rw [List.length_append, pad_len k]; rfl
theorem pad_zero : ∀ k, pad k 0 = List.replicate k 48
  | 0 => rfl
  | k + 1 => by
    show pad k (0 / 10) ++ [48 + 0 % 10] = _
    rw [Nat.zero_div, pad_zero k, List.replicate_succ']
theorem pad_add (a : Nat) : ∀ (b n : Nat), pad (a + b) n = pad a (n / 10 ^ b) ++ pad b (n % 10 ^ b)
  | 0, n => by simp [pad]
  | b + 1, n => by
    show pad (a + b) (n / 10) ++ [48 + n % 10] = pad a (n / 10 ^ (b + 1)) ++ (pad b (n % 10 ^ (b + 1) / 10) ++ [48 + n % 10 ^ (b + 1) % 10])
    have e1 : n / 10 ^ (b + 1) = n / 10 / 10 ^ b := by rw [Nat.pow_succ', Nat.div_div_eq_div_mul]
    have e2 : n % 10 ^ (b + 1) / 10 = n / 10 % 10 ^ b := by rw [Nat.pow_succ', Nat.mod_mul_right_div_self]
    have e3 : n % 10 ^ (b + 1) % 10 = n % 10 := by rw [Nat.pow_succ', Nat.mod_mul_right_mod]
    rw [e1, e2, e3, pad_add a b (n / 10), List.append_assoc]
theorem digit_code : ∀ d : Nat, d < 10 → (Nat.digitChar d).toNat = 48 + d := by decide
theorem dg_small {n : Nat} (h : n < 10) : dg n = [48 + n] := by
  unfold dg
  rw [Nat.toDigits_of_lt_base h, List.map_cons, List.map_nil, digit_code n h]
theorem dg_step {n : Nat} (h : 10 ≤ n) : dg n = dg (n / 10) ++ [48 + n % 10] := by
  unfold dg
  have hm : n % 10 < 10 := Nat.mod_lt n (by decide)
  have t : Nat.toDigits 10 (n / 10) ++ Nat.toDigits 10 (n % 10) = Nat.toDigits 10 (10 * (n / 10) + n % 10) := Nat.toDigits_append_toDigits (by decide) (by omega) hm
  rw [Nat.div_add_mod] at t
  rw [← t, List.map_append, Nat.toDigits_of_lt_base hm, List.map_cons, List.map_nil, digit_code _ hm]
theorem dg_len_pos (n : Nat) : 1 ≤ (dg n).length := by
  by_cases h : n < 10
  · rw [dg_small h]; simp
  · rw [dg_step (by omega)]; simp
theorem pad_dg : ∀ (k n : Nat), 0 < k → n < 10 ^ k → pad k n = List.replicate (k - (dg n).length) 48 ++ dg n
  | 0, _, h, _ => absurd h (by decide)
  | k + 1, n, _, hn => by
    by_cases h : n < 10
    · rw [dg_small h]
      show pad k (n / 10) ++ [48 + n % 10] = _
      rw [Nat.div_eq_of_lt h, Nat.mod_eq_of_lt h, pad_zero]
      rfl
    · have hk : 0 < k := by
        rcases Nat.eq_zero_or_pos k with rfl | hk
        · exact absurd hn (by omega)
        · exact hk
      have hd : n / 10 < 10 ^ k := by
        rw [Nat.pow_succ] at hn
        exact Nat.div_lt_of_lt_mul (by rw [Nat.mul_comm]; exact hn)
      rw [dg_step (by omega)]
      show pad k (n / 10) ++ [48 + n % 10] = _
      rw [pad_dg k (n / 10) hk hd, List.length_append, List.append_assoc, List.length_singleton]
      congr 2
      omega
theorem dg_le {k n : Nat} (hk : 0 < k) (hn : n < 10 ^ k) : (dg n).length ≤ k := by
  have e := congrArg List.length (pad_dg k n hk hn)
  rw [pad_len, List.length_append, List.length_replicate] at e
  omega
/-- the first digit of a number above 0 is no 0 -/
theorem dg_head (n : Nat) : 0 < n → ∃ c r, dg n = c :: r ∧ c ≠ 48 := by
  induction n using Nat.strongRecOn with
  | _ n ih =>
    intro h0
    by_cases h : n < 10
    · exact ⟨48 + n, [], dg_small h, by omega⟩
    · obtain ⟨c, r, e, hc⟩ := ih (n / 10) (by omega) (by omega)
      exact ⟨c, r ++ [48 + n % 10], by rw [dg_step (by omega), e]; rfl, hc⟩
theorem dropWhile_rep (l : List Nat) : ∀ k, (List.replicate k 48 ++ l).dropWhile (· == 48) = l.dropWhile (· == 48)
  | 0 => rfl
  | k + 1 => by
    rw [List.replicate_succ, List.cons_append, List.dropWhile_cons]
    rw [if_pos (by rfl)]
    exact dropWhile_rep l k
theorem pad_drop {k n : Nat} (h0 : 0 < n) (hk : 0 < k) (hn : n < 10 ^ k) : (pad k n).dropWhile (· == 48) = dg n := by
  rw [pad_dg k n hk hn, dropWhile_rep]
  obtain ⟨c, r, e, hc⟩ := dg_head n h0
  rw [e, List.dropWhile_cons, if_neg]
  simpa using hc
/-- halving a part -/
theorem pad_half {w n : Nat} : pad (w + w) n = pad w (n / 10 ^ w) ++ pad w (n % 10 ^ w) := pad_add w w n
def halves (w : Nat) (ps : List Nat) : List Nat := ps.flatMap fun p => [p / 10 ^ w, p % 10 ^ w]
theorem pads_halves (w : Nat) : ∀ ps : List Nat, (halves w ps).flatMap (pad w) = ps.flatMap (pad (w + w))
  | [] => rfl
  | p :: ps => by
    show ((p / 10 ^ w) :: (p % 10 ^ w) :: halves w ps).flatMap (pad w) = _
    rw [List.flatMap_cons, List.flatMap_cons, List.flatMap_cons, pad_half, pads_halves w ps, List.append_assoc]
theorem halves_lt {w : Nat} {ps : List Nat} (h : ∀ p ∈ ps, p < 10 ^ (w + w)) : ∀ p ∈ halves w ps, p < 10 ^ w := by
  intro q hq
  unfold halves at hq
  obtain ⟨p, hp, hq⟩ := List.mem_flatMap.mp hq
  have h1 := h p hp
  rw [Nat.pow_add] at h1
  have h0 : 0 < 10 ^ w := Nat.pow_pos (by decide)
  rcases List.mem_cons.mp hq with rfl | hq
  · exact Nat.div_lt_of_lt_mul h1
  · rcases List.mem_cons.mp hq with rfl | hq
    · exact Nat.mod_lt _ h0
    · cases hq
theorem halves_len (w : Nat) (ps : List Nat) : (halves w ps).length = 2 * ps.length := by
  induction ps with
  | nil => rfl
  | cons p ps ih => show (halves w ps).length + 1 + 1 = _; rw [ih, List.length_cons]; omega
end Dg

set_option Elab.async false
set_option linter.all false
set_option maxRecDepth 100000
set_option maxHeartbeats 4000000
namespace Lx
open PySem PySem.Spec PyProof.Rows L2
section
variable {X : Cx}
/-- // by any divisor but 0, below 2 ^ 9000 -/
def CDivWN (_ j : Int) : Prop := j ≠ 0 ∧ j.natAbs.log2 < 9000
theorem op_fdivWN : OpR X (binaryOp .FloorDiv) (rI CDivWN fun i j => .int (i.fdiv j)) := opI fun i j _ _ _ _ _ hc q => floordiv_int hc.1 q (.inl (PyProof.noPylong_of_log2 hc.2))
theorem wide_divN {i j : Int} {b : Nat} (h : j ≠ 0) (hb : j.natAbs < 2 ^ b) (h0 : 0 < b) (h9 : b ≤ 9000) : CDivWN i j := ⟨h, Nat.lt_of_lt_of_le (PySem.Flt.log2_lt_of h0 hb) h9⟩
/-- a module's int -/
theorem pe_gint {x : Str} {i : Int} {pos : Pos} (hg : Gl X x) (h : ∃ t, X.mg x = some (.int i t)) (hd : (x == ("__debug__" : Str)) = false := by decide) : PE X (.Name x pos) (tC (.int i)) := by
  obtain ⟨t, h⟩ := h
  exact pe_glob hg h ⟨t, rfl⟩ hd
theorem cmpback {P : Value → Shared → Prop} {z : V} {v : Value} {s' : Shared} (r : RelV z v) (h : P v s') : PySem.W.CmpBack P v s' := by
  cases v <;> first | exact h | (cases z <;> first | (obtain ⟨_, r⟩ := r; cases r; done) | (cases r; done))
/-! ### operators of an own class -/
/-- a op b: a an instance of the class at C, whose def for op is at f; b another one, or an int -/
def rOwnB (C : Addr) (sp : Sp) (E : XK) : R2 := fun x y H Q => ∃ a dx fs, x = .ref a ∧ H a = some (.ins C dx fs) ∧ ((∃ b dy gs, y = .ref b ∧ H b = some (.ins C dy gs)) ∨ ∃ i, y = .int i) ∧ sp [x, y] H Q E
structure OwnB (K : PySem.W.Frag) (C f : Addr) (op : Operator) : Prop where
  sf : PySem.W.selfFirst K C = true
  fi : PySem.W.findIn K (.ref C) (PySem.dunder op.info.2) = some (some (.ref f))
  fn : PySem.W.isFn K (.ref f) = true
  rn : PySem.W.findIn K (.ref C) (dunderR op.info.2) = some none
  i1 : ∃ fo, PySem.W.findIn K (.type "int") (PySem.dunder op.info.2) = some fo
  i2 : ∃ ro, PySem.W.findIn K (.type "int") (dunderR op.info.2) = some ro
  sb : PySem.W.subIn K (.type "int") (.ref C) = some false
theorem op_ownB {CX : CXT} {n : Nat} {C f : Addr} {fd : FuncData} {ps : List Str} {sp : Sp} {E : XK} {op : Operator} (O : OwnB X.K C f op) (F : FnOk X.prog X.w X.K X.mg X.base CX n f fd ps sp) (hr : Room n X.A) (hb : Binds X.K fd ps [])
    (hx : Passes CX X E) : OpR X (binaryOp op) (rOwnB C sp E) := by
  intro pins s σ H x y v u Q I rx ry h
  obtain ⟨a, dx, fs, rfl, ha, hy, q⟩ := h
  cases (show v = Value.ref a from rx)
  obtain ⟨mA, J, _⟩ := ins_get I.hok ha
  obtain ⟨od, J, _⟩ := J.look
  obtain ⟨m, hF⟩ := I.fr
  have go : wpAny (model X.prog X.w) X.A (call (.ref f) [.ref a, u]) (PySem.W.CmpBack (EP X pins σ Q)) X.xe s := by
    refine wpAny_mono (run_fn (us := [.ref a, u]) (vs := [.ref a, y]) F hr hb .nil hx I (.cons rfl (.cons ry .nil)) (by simpa using q)) (fun w s' z => ?_) fun _ _ x => x
    obtain ⟨z', H', I', rz, qz⟩ := z
    exact cmpback rz ⟨z', H', I', rz, qz⟩
  rcases hy with ⟨b, dy, gs, rfl, hb'⟩ | ⟨i, rfl⟩
  · cases (show u = Value.ref b from ry)
    obtain ⟨mB, J', _⟩ := ins_get I.hok hb'
    obtain ⟨od', J', _⟩ := J'.look
    exact PySem.W.binop_K hF I.ok.mod.kin J J'.type O.sf O.fi O.fn go
  · obtain ⟨t, rfl⟩ := ry
    obtain ⟨fo, h1⟩ := O.i1
    obtain ⟨ro, h2⟩ := O.i2
    exact PySem.W.ksp_binT hF I.ok.mod.kin J rfl O.sf O.fi O.fn O.rn (.inl rfl) h1 h2 O.sb go
/-- x == y: x an instance of the class at C, whose __eq__ is at f; y another one, an int, a text -/
def rOwnE (C : Addr) (sp : Sp) (E : XK) : R2 := fun x y H Q => ∃ a dx fs, x = .ref a ∧ H a = some (.ins C dx fs) ∧ ((∃ b dy gs, y = .ref b ∧ H b = some (.ins C dy gs)) ∨ (∃ i, y = .int i) ∨ ∃ z, y = .str z) ∧ sp [x, y] H Q E
structure OwnE (K : PySem.W.Frag) (C f : Addr) : Prop where
  fi : PySem.W.findIn K (.ref C) "__eq__" = some (some (.ref f))
  fn : PySem.W.isFn K (.ref f) = true
  si : PySem.W.subIn K (.type "int") (.ref C) = some false
  ss : PySem.W.subIn K (.type "str") (.ref C) = some false
theorem op_ownE {CX : CXT} {n : Nat} {C f : Addr} {fd : FuncData} {ps : List Str} {sp : Sp} {E : XK} (O : OwnE X.K C f) (F : FnOk X.prog X.w X.K X.mg X.base CX n f fd ps sp) (hr : Room n X.A) (hb : Binds X.K fd ps [])
    (hx : Passes CX X E) : OpR X (compareOp .Eq) (rOwnE C sp E) := by
  intro pins s σ H x y v u Q I rx ry h
  obtain ⟨a, dx, fs, rfl, ha, hy, q⟩ := h
  cases (show v = Value.ref a from rx)
  obtain ⟨mA, J, _⟩ := ins_get I.hok ha
  obtain ⟨od, J, _⟩ := J.look
  obtain ⟨m, hF⟩ := I.fr
  have go : wpAny (model X.prog X.w) X.A (call (.ref f) [.ref a, u]) (PySem.W.CmpBack (EP X pins σ Q)) X.xe s := by
    refine wpAny_mono (run_fn (us := [.ref a, u]) (vs := [.ref a, y]) F hr hb .nil hx I (.cons rfl (.cons ry .nil)) (by simpa using q)) (fun w s' z => ?_) fun _ _ x => x
    obtain ⟨z', H', I', rz, qz⟩ := z
    exact cmpback rz ⟨z', H', I', rz, qz⟩
  show wpAny (model X.prog X.w) X.A (richCompare .Eq (.ref a) u) (EP X pins σ Q) X.xe s
  rcases hy with ⟨b, dy, gs, rfl, hb'⟩ | ⟨i, rfl⟩ | ⟨z, rfl⟩
  · cases (show u = Value.ref b from ry)
    obtain ⟨mB, J', _⟩ := ins_get I.hok hb'
    obtain ⟨od', J', _⟩ := J'.look
    exact PySem.W.cmp_K (op := .Eq) (tb := .ref C) hr.units0 hF I.ok.mod.kin J J'.type (by simp [PySem.W.notFirst]) O.fi O.fn go
  · obtain ⟨t, rfl⟩ := ry
    exact PySem.W.cmp_K (op := .Eq) (tb := .type "int") hr.units0 hF I.ok.mod.kin J (PySem.W.Looks.of_pure rfl) (by unfold PySem.W.notFirst; rw [O.si]; rfl) O.fi O.fn go
  · obtain ⟨t, rfl⟩ := ry
    exact PySem.W.cmp_K (op := .Eq) (tb := .type "str") hr.units0 hF I.ok.mod.kin J (PySem.W.Looks.of_pure rfl) (by unfold PySem.W.notFirst; rw [O.ss]; rfl) O.fi O.fn go
end
/-! ### C(k = v, ..), no positional values -/
section
variable {X : Cx} {CX : CXT} {k : Nat} {f C : Addr} {fd : FuncData} {ps ks : List Str} {sp : Sp} {E : XK} {x : Str} {p pos : Pos} {kws : List Keyword} {tk : TA} {g : List Value → List Value → List Value} {gV : List V → List V → List V}
theorem pe_makeN0 (M : Mk X.K C f) (F : FnOk X.prog X.w X.K X.mg X.base CX k f fd ps sp) (hr : Room (k + 1) X.A) (hg : Gl X x) (hm : X.mg x = some (.ref C)) (hb : KBn X.K fd ps 1 ks g gV) (hx : Passes CX X E)
    (hkw : PK X kws tk) (hall : (backToKw pos (keywordEach kws X.env)).all (·.1.isSome) = true := by rfl) (hks : (backToKw pos (keywordEach kws X.env)).filterMap (·.1) = ks := by rfl)
    (hdb : (x == ("__debug__" : Str)) = false := by decide) (hpl : ((backTo pos (starEach [] X.env)).any (·.1) || (backToKw pos (keywordEach kws X.env)).any (·.1.isNone)) = false := by rfl) :
    PE X (.Call (.Name x p) [] kws pos) (tMakeN C 0 ks.length sp gV E tNil tk) := by
  refine ⟨fun pins s σ H Q I h => ?_⟩
  refine wpAny_Call_Name_kw (ld_glob I hg hm ?_ hdb)
  refine PySem.W.callWith_KW0 (h₀ := X.base) I.ok.mod.kin M.kp hall (thn (hkw.run pos pins s σ H _ I h) fun ws s2 ⟨zs, H2, I2, rz, l1, l2, q2⟩ => ⟨I2.kIn, ?_⟩) hpl
  rw [hks]
  exact run_makeN (us := []) (vs := []) M F hr hb hx I2 .nil rz l1 l2 q2
end
/-! ### the head's hook, with a Bool of one's own -/
section
open PySem.W
abbrev AlY : Type := He.AlD × Bool
def obsYG (n : Nat) (fa : List He.Fa) (fn : List He.DefD) (ex : PySem.W.Frag → Bool) (g : Addr → Option Obj) : AlY := (He.obsD fa fn (He.frG g (He.asD g n)), ex (He.frG g (He.asD g n)))
def hookY (n : Nat) (fa : List He.Fa) (fn : List He.DefD) (ex : PySem.W.Frag → Bool) : PySem.W.Hook where
  α := AlY
  obs := fun s => obsYG n fa fn ex s.heap.get?
  val := fun _ => (He.valD fn, true)
  says := fun _ h => ∃ K : PySem.W.Frag, K.In h ∧ He.SaysD fa fn K ∧ ex K = true
  of := fun _ _ e => ⟨_, He.frG_in, congrArg (fun z : AlY => z.1) e, congrArg (fun z : AlY => z.2) e⟩
  keeps := fun _ _ _ ⟨K, hK, c⟩ k => ⟨K, PySem.W.Frag.In.keeps hK k, c⟩
theorem obsY_eq {n : Nat} {fa : List He.Fa} {fn : List He.DefD} {ex : PySem.W.Frag → Bool} {g : Addr → Option Obj} {s : Shared} (h : ∀ a, g a = s.heap.get? a) : obsYG n fa fn ex g = (hookY n fa fn ex).obs s := by
  have e : g = s.heap.get? := funext h
  rw [e] <;> rfl
end
/-- a def of the text as the head tells it, its function object a function of K -/
noncomputable def fdAt (K : PySem.W.Frag) (d : He.DefD) : FuncData := @Classical.epsilon FuncData ⟨PySem.W.fnOf "" "" d.params d.body d.scope .none .none .none .none none .none .none⟩ fun fd => FunD K d.name d.qual d.params d.body d.scope (d.dvs K) (d.kws K) (He.fAd K d.at_) fd
theorem fdAt_ok {K : PySem.W.Frag} {d : He.DefD} (h : ∃ fd, FunD K d.name d.qual d.params d.body d.scope (d.dvs K) (d.kws K) (He.fAd K d.at_) fd) : FunD K d.name d.qual d.params d.body d.scope (d.dvs K) (d.kws K) (He.fAd K d.at_) (fdAt K d) :=
  @Classical.epsilon_spec_aux FuncData ⟨PySem.W.fnOf "" "" d.params d.body d.scope .none .none .none .none none .none .none⟩ _ h
/-- THE RULE for a def that lets no exception out -/
theorem okN {P : Program} {w : World} {K : PySem.W.Frag} {mg : Str → Option Value} {base : Heap} {x qual : Str} {params : Arguments} {body : List Stmt} {scope : Scope} {dvs : List V} {kws : List (Str × V)} {f : Addr} {fd : FuncData} {N ps : List Str} {k : Nat} {sp : Sp}
    (F : FunD K x qual params body scope dvs kws f fd) (S : FnScope N ps scope) (len : ∀ vs H Q E, sp vs H Q E → vs.length = ps.length)
    (hbody : ∀ (cdv : Value) (A : Around) (outer : List Env) (s : Shared) (H : Hp) (vs : List V) (Q : VK) (E : XK), Room k (A.deeper (envOfC qual scope s.heap.objs.size f cdv)) → sp vs H Q E →
      ∃ t, PSs (cxOf CX0 P w K mg base N qual scope f cdv A outer s H E).nox body t ∧ t { nx := fun _ H' => Q .non H', rt := Q } (start N vs) H) : FnOk P w K mg base CX0 (k + 1) f fd ps sp :=
  F.ok S len fun cdv A outer s H vs Q E hr h => by
    obtain ⟨t, h1, h2⟩ := hbody cdv A outer s H vs Q E hr h
    exact ⟨t, h1.nox, h2⟩
/-! ### rules whose readings speak of the written part, told with K apart (within a comprehension X.K is the block's) -/
section
variable {X : Cx} {K' : PySem.W.Frag} {tg l e e2 a b o : Expr} {tl te ta tb to : TE} {t : TA} {f : Str} {pos : Pos}
theorem pi_listk (hl : PE X l tl) (hK : X.K = K' := by first | rfl | (dsimp only; rfl)) : PI X tg l (iList K' tl) := by
  subst hK
  exact pi_list hl
theorem pi_tupk (hl : PE X l tl) (hK : X.K = K' := by first | rfl | (dsimp only; rfl)) : PI X tg l (iTup K' tl) := by
  subst hK
  exact pi_tup hl
theorem pi_zipk {p tpos : Pos} {elts : List Expr} {kk : Nat} (hg : Gl X "zip") (hm : X.mg "zip" = none) (ha : PA X [e, e2] t) (hs : starEach [e, e2] X.env = (false, eval e X.env) :: starEach [e2] X.env := by rfl) (hpl : (backTo pos (starEach [e2] X.env)).any (·.1) = false := by rfl)
    (hK : X.K = K' := by first | rfl | (dsimp only; rfl)) : PI X (.Tuple elts kk tpos) (.Call (.Name "zip" p) [e, e2] [] pos) (RZ.iZipA K' t) := by
  subst hK
  exact RZ.pi_zipA hg hm ha hs hpl
theorem pe_fldk (he : PE X e ta) (hb : attributeBase e f X.env (eval e X.env) = eval e X.env) (hK : X.K = K' := by first | rfl | (dsimp only; rfl)) : PE X (.Attribute e f pos) (tFld K' ta f) := by
  subst hK
  exact pe_fld he hb
theorem ix_listk (hK : X.K = K' := by first | rfl | (dsimp only; rfl)) : IxR X (rIxL K') := by
  subst hK
  exact ix_list
theorem ix_tupk (hK : X.K = K' := by first | rfl | (dsimp only; rfl)) : IxR X (rIxT K') := by
  subst hK
  exact ix_tup
theorem ix_seqk (hK : X.K = K' := by first | rfl | (dsimp only; rfl)) : IxR X (rIx K') := by
  subst hK
  exact ix_seq
theorem sl_listk (hK : X.K = K' := by first | rfl | (dsimp only; rfl)) : SlR X (rSlL K') := by
  subst hK
  exact sl_list
theorem len_seqk (hK : X.K = K' := by first | rfl | (dsimp only; rfl)) : CallR X (.builtin "len") (fun xs H Q => ∃ p ys, xs = [.ref p] ∧ (SqL K' H p ys ∨ SqT K' H p ys) ∧ Q (.int ys.length) H) := by
  subst hK
  exact call_len_seq
theorem isi_k (hK : X.K = K' := by first | rfl | (dsimp only; rfl)) : CallR X (.builtin "isinstance") (rIsi K') := by
  subst hK
  exact call_isi
theorem isiT_k (hK : X.K = K' := by first | rfl | (dsimp only; rfl)) : CallR X (.builtin "isinstance") (rIsiT K') := by
  subst hK
  exact call_isiT
theorem pg_tupk {es : List Expr} {k : Nat} {t : TGs} {n : Nat} (hc : X.calm = true) (h : PGs X es t)
    (hn : (assignEach es X.env).length = n := by rfl) (hst : (assignEach es X.env).findIdx? (·.1) = none := by rfl) (hK : X.K = K' := by first | rfl | (dsimp only; rfl)) : PG X (.Tuple es k pos) (gTup K' n t) := by
  subst hK
  exact pg_tup hc h hn hst
section
variable {es : List Expr} {T id : String} {name : Str} {apos cpos : Pos} {r : V → List V → Hp → VK → Prop}
theorem pe_bmk (pa : PlainAttrs T) (slot : Slot T name id) (hty : typeOf (.builtin id) = pure (.type "method_descriptor")) (hm : MtR X id r) (ho : PE X o to) (ha : PA X (e :: es) t) (hbase : attributeBase o name X.env (eval o X.env) = eval o X.env := by rfl)
    (hfew : ((backTo cpos (starEach (e :: es) X.env)).all (fun x => !x.1) && (backToKw cpos (keywordEach [] X.env)).all (fun x => x.1.isSome) && decide ((e :: es).length + ([] : List Keyword).length + (if ([] : List Keyword).isEmpty then 0 else 1) < 30)) = true := by rfl)
    (hline : (apos.endLine == cpos.line) = true := by rfl) (hs : starEach (e :: es) X.env = (false, eval e X.env) :: starEach es X.env := by rfl) (hplain : (backTo cpos (starEach es X.env)).any (·.1) = false := by rfl) (hK : X.K = K' := by first | rfl | (dsimp only; rfl)) :
    PE X (.Call (.Attribute o name apos) (e :: es) [] cpos) (tBM K' T r to t) := by
  subst hK
  exact pe_bm pa slot hty hm ho ha hbase hfew hline hs hplain
end
end
/-! ### loops over a list, a tuple, whatever a turn does: B x H' Nx (Nx what the turn is to reach) -/
section
variable {K : PySem.W.Frag} {a b : Addr} {xs ys : List V} {B : V → Hp → (Hp → Prop) → Prop} {Qd : Hp → Prop} {H0 : Hp}
theorem loop_list (Pv : Nat → Hp → Prop) (h0 : Pv 0 H0) (hl : ∀ i H, i ≤ xs.length → Pv i H → SqL K H a xs) (hs : ∀ i x H, xs[i]? = some x → Pv i H → B x H (Pv (i + 1))) (hd : ∀ H, Pv xs.length H → Qd H) :
    ∃ W : Nat → Nat → Hp → Prop, (∃ m, W 0 m H0) ∧ ∀ i m H, W i m H → ((Itl K a).stop i H ∧ Qd H) ∨ ((Itl K a).go i H ∧ ∃ Nx : Hp → Prop, (∀ H', Nx H' → ∃ m', m' < m ∧ W (i + 1) m' H') ∧ ∀ x H', (Itl K a).yld i H x H' → B x H' Nx) := by
  refine ⟨fun i m H => m = xs.length - i ∧ i ≤ xs.length ∧ Pv i H, ⟨xs.length, rfl, Nat.zero_le _, h0⟩, ?_⟩
  rintro i m H ⟨rfl, hi, p⟩
  have q := hl i H hi p
  by_cases hlt : i < xs.length
  · refine .inr ⟨⟨xs, xs[i], q, by simp [hlt]⟩, Pv (i + 1), fun H' p' => ⟨xs.length - (i + 1), by omega, rfl, hlt, p'⟩, fun x H' y => ?_⟩
    obtain ⟨e, y⟩ := y
    subst e
    exact hs i x H' (y xs q) p
  · have e : i = xs.length := by omega
    subst e
    exact .inl ⟨⟨xs, q, Nat.le_refl _⟩, hd H p⟩
theorem loop_tup (Pv : Nat → Hp → Prop) (h0 : Pv 0 H0) (hl : ∀ i H, i ≤ xs.length → Pv i H → SqT K H a xs) (hs : ∀ i x H, xs[i]? = some x → Pv i H → B x H (Pv (i + 1))) (hd : ∀ H, Pv xs.length H → Qd H) :
    ∃ W : Nat → Nat → Hp → Prop, (∃ m, W 0 m H0) ∧ ∀ i m H, W i m H → ((Itt K a).stop i H ∧ Qd H) ∨ ((Itt K a).go i H ∧ ∃ Nx : Hp → Prop, (∀ H', Nx H' → ∃ m', m' < m ∧ W (i + 1) m' H') ∧ ∀ x H', (Itt K a).yld i H x H' → B x H' Nx) := by
  refine ⟨fun i m H => m = xs.length - i ∧ i ≤ xs.length ∧ Pv i H, ⟨xs.length, rfl, Nat.zero_le _, h0⟩, ?_⟩
  rintro i m H ⟨rfl, hi, p⟩
  have q := hl i H hi p
  by_cases hlt : i < xs.length
  · refine .inr ⟨⟨xs, xs[i], q, by simp [hlt]⟩, Pv (i + 1), fun H' p' => ⟨xs.length - (i + 1), by omega, rfl, hlt, p'⟩, fun x H' y => ?_⟩
    obtain ⟨e, y⟩ := y
    subst e
    exact hs i x H' (y xs q) p
  · have e : i = xs.length := by omega
    subst e
    exact .inl ⟨⟨xs, q, Nat.le_refl _⟩, hd H p⟩
end
end Lx

set_option Elab.async false
set_option linter.all false
set_option maxRecDepth 100000
set_option maxHeartbeats 4000000
/-! What runs while an exception is handled (its context None): a new StopIteration gets it as context. -/
namespace Lx
open PySem PySem.Spec PyProof.Rows L2 HotX
section
variable {prog : Program} {w : World} {A : Around} {E : Value → Shared → Prop} {s : Shared} {x1 : Addr}
theorem hot_keep {h h' : Heap} (c : HotAt A x1 h) (k : ∀ o, h.get? x1 = some o → h'.get? x1 = some o) : HotAt A x1 h' := by
  obtain ⟨e, o, vs, g, d⟩ := c
  exact ⟨e, o, vs, k _ g, d⟩
theorem hot_lt {h : Heap} (c : HotAt A x1 h) : x1 < h.objs.size := by
  obtain ⟨_, o, vs, g, _⟩ := c
  exact Heap.lt_size g
/-- StopIteration() made and raised there -/
theorem stop_hot {α : Type} {Q : α → Shared → Prop} (hot : HotAt A x1 s.heap) (hE : ∀ h' e, (∀ b o, s.heap.get? b = some o → h'.get? b = some o) → (∃ o, h'.get? e = some o ∧ o.cls = .type "StopIteration") → E (.ref e) { s with heap := h' }) :
    wpAny (model prog w) A (newExc (.type "StopIteration") [] >>= fun e => (raiseNew e : Sem α)) Q E s := by
  have l1 := hot_lt hot
  refine wpAny_bind ?_
  simp only [newExc, newTuple]
  refine wpAny_bind (wpAny_newObj_type ?_ (by size_fits))
  refine wpAny_bind (m := firstArgMember _ _) (wpAny_of_eq (a := Value.none) (by first | rfl | (simp only [firstArgMember]; rfl)) (wpAny_newObj_type ?_ (by size_fits)))
  refine raiseNew_hot (hot_keep (hot_keep hot fun o g => Heap.get?_push_of_some _ g) fun o g => Heap.get?_push_of_some _ g) ?_ (Heap.get?_push_size _ rfl) rfl (by simp; omega) (hE _ _ (fun b o g => ?_) ⟨_, Heap.get?_update_self _ (Heap.get?_push_size _ rfl) rfl, rfl⟩)
  · exact Nat.ne_of_lt (Nat.lt_of_lt_of_le l1 (by rw [Heap.size_push]; exact Nat.le_succ _))
  · have g2 := Heap.get?_push_of_some (h := s.heap) { cls := .type "tuple", data := .seq ([] : List Value).toArray } g
    rw [Heap.get?_update_other _ _ (Nat.ne_of_gt (Heap.lt_size g2))]
    exact Heap.get?_push_of_some _ g2
theorem nextOf_listH {it l : Addr} {i : Nat} {items : Array Value} {Q : Value → Shared → Prop} (hot : HotAt A x1 s.heap) (ne : x1 ≠ it) (hit : s.heap.IsListIter it l i) (hl : s.heap.IsList l items) (hx : items[i]? = none)
    (hE : ∀ h' e, Heap.ExtBut it s.heap h' → (∃ o, h'.get? e = some o ∧ o.cls = .type "StopIteration") → E (.ref e) { s with heap := h' }) : wpAny (model prog w) A (Builtin.SmallTypes.nextOf (.ref it)) Q E s := by
  obtain ⟨o, ho, hc, hd⟩ := id hit
  obtain ⟨ol, hol, _, nl, hdl⟩ := hl
  unfold Builtin.SmallTypes.nextOf
  refine wpAny_bind (wpAny_callSpecial?_slot (name := Str.ofString "__next__") hit.typeIs slot_listiter_next (wpAny_call_entry slot_listiter_next hit.typeIs entry_listiter_next ?_ (args_listiter_next _)))
  show wpAny _ _ (field (.ref it) 0 >>= _) _ _ s
  refine wpAny_bind (wpAny_field ho hd (x := .ref l) rfl ?_)
  refine (show wpAny _ _ (if (Value.ref l == Value.none) = true then _ else _) _ _ s from ?_)
  rw [if_neg (show ¬ ((Value.ref l == Value.none) = true) from Bool.false_ne_true)]
  refine (show wpAny _ _ (field (.ref it) 1 >>= _) _ _ s from wpAny_bind (wpAny_field ho hd (x := .int i 0) rfl ?_))
  refine (show wpAny _ _ (seqItems? (.ref l) >>= _) _ _ s from wpAny_bind (wpAny_seqItems hol hdl ?_))
  simp only [Int.toNat_natCast, hx]
  refine wpAny_bind (wpAny_rule (wpAny_bind (wpAny_setField ho hd (by simp) ?_)))
  refine stop_hot (A := A.in1) (hot_keep hot fun u g => ?_) fun h' e k q => hE h' e (fun b u nb g => k _ _ ?_) q
  · exact (Heap.get?_update_other _ _ (Ne.symm ne)).trans g
  · exact (Heap.get?_update_other _ _ (Ne.symm nb)).trans g
theorem next_tupleH {it t : Addr} {i : Nat} {items : Array Value} {Q : Option Value → Shared → Prop} (hot : HotAt A x1 s.heap) (ne : x1 ≠ it) (hit : IsTupIter s.heap it t i) (ht : IsTup s.heap t items) (hx : items[i]? = none)
    (hQ : ∀ h', Heap.ExtBut it s.heap h' → Q none { s with heap := h' }) : wpAny (model prog w) A (pyNext (.ref it)) Q E s := by
  obtain ⟨o, ho, hc, hd⟩ := id hit
  obtain ⟨ol, hol, _, nl, hdl⟩ := ht
  unfold pyNext
  refine wpAny_bind (wpAny_attempt (wpAny_callSpecial?_slot (name := Str.ofString "__next__") hit.typeIs slot_tupleiter_next (wpAny_call_entry slot_tupleiter_next hit.typeIs entry_tupleiter_next ?_ (args_tupleiter_next _))))
  show wpAny _ _ (field (.ref it) 0 >>= _) _ _ s
  refine wpAny_bind (wpAny_field ho hd (x := .ref t) rfl ?_)
  refine (show wpAny _ _ (if (Value.ref t == Value.none) = true then _ else _) _ _ s from ?_)
  rw [if_neg (show ¬ ((Value.ref t == Value.none) = true) from Bool.false_ne_true)]
  refine (show wpAny _ _ (field (.ref it) 1 >>= _) _ _ s from wpAny_bind (wpAny_field ho hd (x := .int i 0) rfl ?_))
  refine (show wpAny _ _ (seqItems? (.ref t) >>= _) _ _ s from wpAny_bind (wpAny_seqItems hol hdl ?_))
  simp only [Int.toNat_natCast, hx]
  refine wpAny_bind (wpAny_rule (wpAny_bind (wpAny_setField ho hd (by simp) ?_)))
  refine stop_hot (A := A.in1) (hot_keep hot fun u g => ?_) fun h' e k ⟨oe, g1, g2⟩ => ?_
  · exact (Heap.get?_update_other _ _ (Ne.symm ne)).trans g
  · exact wpAny_bind (wpAny_isInstance (T := "StopIteration") (b := true) ⟨oe, g1, g2⟩ isSubtype_stop (wpAny_pure (hQ _ fun b u nb g => k _ _ ((Heap.get?_update_other _ _ (Ne.symm nb)).trans g))))
theorem unpackH {env : Env} {elts : List Expr} {kk : Nat} {pos : Pos} {t : Addr} {items : Array Value} {Q : Unit → Shared → Prop} (hot : HotAt A x1 s.heap) (ht : IsTup s.heap t items) (hn : (assignEach elts env).length = items.size) (hst : (assignEach elts env).findIdx? (·.1) = none)
    (h : ∀ h', Heap.ExtBut s.heap.objs.size s.heap h' → wpAny (model prog w) A (assignInOrder ((assignEach elts env).map (·.2)) items.toList) Q E { s with heap := h' }) : wpAny (model prog w) A (assign (.Tuple elts kk pos) env (.ref t)) Q E s := by
  have hlt : t ≠ s.heap.objs.size := by obtain ⟨o, ho, _⟩ := ht; exact Nat.ne_of_lt (Heap.lt_size ho)
  rw [assign_Tuple]
  refine wpAny_bind (wpAny_standAt ?_)
  unfold unpack
  rw [hn, hst]
  refine wpAny_bind (wpAny_holding ?_)
  unfold unpackItems
  refine wpAny_bind ?_
  unfold notIterableAtAll
  refine wpAny_bind (wpAny_specialOf ht.typeIs slot_tuple_iter.lookup (wpAny_pure ?_))
  simp only [Bool.false_eq_true, if_false]
  refine wpAny_bind (wpAny_holding (iter_tuple ht (wpAny_bind (wpAny_holding (draw_tuple hlt items.size 0 _ _ ⟨_, Heap.get?_push_size _ rfl, rfl, rfl⟩ (ht.push _) (by omega) fun h₁ hit₁ hs₁ => ?_)))))
  rw [List.drop_zero, List.take_of_length_le (by simp), if_neg (by simp)]
  have ne1 : x1 ≠ s.heap.objs.size := Nat.ne_of_lt (hot_lt hot)
  refine wpAny_bind (wpAny_holding (next_tupleH (hot_keep hot fun o g => hs₁.extBut _ _ ne1 (Heap.get?_push_of_some _ g)) ne1 hit₁ ((ht.push _).extBut hs₁.extBut hlt) (by simp) fun h₂ he₂ => ?_))
  simp only [Option.isSome_none, Bool.false_eq_true, if_false]
  exact wpAny_pure (h h₂ fun b o hb g => he₂ b o hb (hs₁.extBut b o hb (Heap.get?_push_of_some _ g)))
theorem zip_endH {z TI TO i1 i2 l1 l2 : Addr} {k : Nat} {xs ys : Array Value} {a b : Value} {Q : Option Value → Shared → Prop} (hot : HotAt A x1 s.heap) (n1 : x1 ≠ z) (n2 : x1 ≠ TO) (n3 : x1 ≠ i1) (n4 : x1 ≠ i2) (D : ZipApart z TI TO i1 i2 l1 l2)
    (hz : IsZip s.heap z TI TO .none) (hTI : IsPair s.heap TI (.ref i1) (.ref i2)) (hTO : IsPair s.heap TO a b) (h1 : s.heap.IsListIter i1 l1 k) (h2 : s.heap.IsListIter i2 l2 k) (hl1 : s.heap.IsList l1 xs) (hl2 : s.heap.IsList l2 ys) (hend : xs[k]? = none ∨ ys[k]? = none)
    (hQ : ∀ h', (∀ c o, c ≠ z → c ≠ TO → c ≠ i1 → c ≠ i2 → s.heap.get? c = some o → h'.get? c = some o) → Q none { s with heap := h' }) : wpAny (model prog w) A (pyNext (.ref z)) Q E s := by
  have hT : s.TypeIs (.ref z) "zip" := ⟨_, hz, rfl⟩
  unfold pyNext
  have fin : ∀ h' e, (∀ c o, c ≠ z → c ≠ TO → c ≠ i1 → c ≠ i2 → s.heap.get? c = some o → h'.get? c = some o) → (∃ o, h'.get? e = some o ∧ o.cls = .type "StopIteration") →
      wpAny (model prog w) A (isInstance (.ref e) (.type "StopIteration") >>= fun b => if b = true then pure none else (throw (.ref e) : Sem (Option Value))) Q E { s with heap := h' } := fun h' e k ⟨oe, g1, g2⟩ =>
    wpAny_bind (wpAny_isInstance (T := "StopIteration") (b := true) ⟨oe, g1, g2⟩ isSubtype_stop (wpAny_pure (hQ _ k)))
  refine wpAny_bind (wpAny_attempt (wpAny_callSpecial?_slot (name := Str.ofString "__next__") hT F.slot_zip_next (wpAny_call_entry F.slot_zip_next hT F.entry_zip_next ?_ (F.args_zip_next_1 _))))
  refine (show wpAny _ _ (field (.ref z) 2 >>= _) _ _ _ from wpAny_bind (wpAny_field hz rfl (x := .bool false) rfl ?_))
  refine (show wpAny _ _ (field (.ref z) 3 >>= _) _ _ _ from wpAny_bind (wpAny_field hz rfl (x := .ref TI) rfl (wpAny_bind (wpAny_seqItems hTI rfl ?_))))
  refine (show wpAny _ _ (Builtin.SmallTypes.ownedTupleIsFree (.ref z) >>= _) _ _ _ from wpAny_bind ?_)
  unfold Builtin.SmallTypes.ownedTupleIsFree
  refine wpAny_bind (wpAny_field hz rfl (x := .none) rfl (wpAny_pure ?_))
  simp only [if_true]
  refine wpAny_bind (wpAny_rule (wpAny_bind (wpAny_field hz rfl (x := .ref TO) rfl (wpAny_bind (wpAny_setField_rec hz (by simp) fun g₁ hz₁ hs₁ => ?_)))))
  replace hz₁ : IsZip g₁ z TI TO .ellipsis := hz₁
  refine wpAny_bind ?_
  simp only [List.zipIdx_cons, List.zipIdx_nil, List.forIn_cons, List.forIn_nil]
  refine wpAny_bind (wpAny_bind (wpAny_onRaise ?_))
  have hot1 := hot_keep (h' := g₁) hot fun o g => hs₁.extBut _ _ n1 g
  refine (show wpAny _ _ (Builtin.SmallTypes.nextOf (.ref i1) >>= _) _ _ _ from ?_)
  cases hx : xs[k]? with
  | none =>
    refine wpAny_bind (nextOf_listH (A := A.in1) hot1 n3 (h1.extBut hs₁.extBut D.i1z) (hl1.extBut hs₁.extBut D.l1z) hx fun g₂ e hs₂ he => ?_)
    obtain ⟨oe, hoe, hce⟩ := he
    have hz₂ : IsZip g₂ z TI TO .ellipsis := hs₂ _ _ D.i1z.symm hz₁
    have hez : e ≠ z := fun y => by subst y; rw [hz₂] at hoe; cases hoe; simp at hce
    exact wpAny_setField_rec hz₂ (by simp) fun g₃ _ hs₃ => fin g₃ e (fun c o c1 _ c3 _ y => hs₃.extBut _ _ c1 (hs₂ _ _ c3 (hs₁.extBut _ _ c1 y))) ⟨oe, hs₃.extBut _ _ hez hoe, hce⟩
  | some x =>
    have hy : ys[k]? = none := hend.elim (fun y => by rw [hx] at y; cases y) id
    refine wpAny_bind (wpAny_nextOf_list_item (h1.extBut hs₁.extBut D.i1z) (hl1.extBut hs₁.extBut D.l1z) hx fun g₂ h1₂ hs₂ => wpAny_pure ?_)
    have hTO₂ : IsPair g₂ TO a b := hs₂.extBut _ _ D.TOi1 (hs₁.extBut _ _ D.TOz hTO)
    refine wpAny_bind (wpAny_seqItems hTO₂ rfl (wpAny_bind (wpAny_updateSeq_pair hTO₂ fun g₃ hTO₃ hs₃ => ?_)))
    refine wpAny_bind (wpAny_letGo (wpAny_pure (wpAny_bind (wpAny_bind (wpAny_onRaise ?_)))))
    refine (show wpAny _ _ (Builtin.SmallTypes.nextOf (.ref i2) >>= _) _ _ _ from ?_)
    have hot3 := hot_keep (h' := g₃) hot1 fun o g => hs₃.extBut _ _ n2 (hs₂.extBut _ _ n3 g)
    refine wpAny_bind (nextOf_listH (A := A.in1) hot3 n4 (((h2.extBut hs₁.extBut D.i2z).extBut hs₂.extBut D.i12.symm).extBut hs₃.extBut D.TOi2.symm) (((hl2.extBut hs₁.extBut D.l2z).extBut hs₂.extBut D.l2i1).extBut hs₃.extBut D.l2TO) hy fun g₄ e hs₄ he => ?_)
    obtain ⟨oe, hoe, hce⟩ := he
    have hz₄ : IsZip g₄ z TI TO .ellipsis := hs₄ _ _ D.i2z.symm (hs₃.extBut _ _ D.TOz.symm (hs₂.extBut _ _ D.i1z.symm hz₁))
    have hez : e ≠ z := fun y => by subst y; rw [hz₄] at hoe; cases hoe; simp at hce
    exact wpAny_setField_rec hz₄ (by simp) fun g₅ _ hs₅ => fin g₅ e (fun c o c1 c2 c3 c4 y => hs₅.extBut _ _ c1 (hs₄ _ _ c4 (hs₃.extBut _ _ c2 (hs₂.extBut _ _ c3 (hs₁.extBut _ _ c1 y))))) ⟨oe, hs₅.extBut _ _ hez hoe, hce⟩
end
end Lx

set_option Elab.async false
set_option linter.all false
set_option maxRecDepth 100000
set_option maxHeartbeats 4000000
namespace Lx
open PySem PySem.Spec PyProof.Rows L2 HotX
/-- in every state of X the handled exception, context None, stands at x1 -/
structure HotB (X : Cx) (x1 : Addr) : Prop where
  hot : ∀ {pins : List (Addr × Obj)} {σ : L2.St} {H : Hp} {s : Shared}, Inv X pins σ H s → HotAt X.A x1 s.heap
  out : ∀ {pins : List (Addr × Obj)} {H : Hp} {b : Addr}, FpOk X pins H b → x1 ≠ b
section
variable {X : Cx} {x1 : Addr}
theorem hotB_pin {p : Addr × Obj} (c : L2H.Hot1 X.A p) (hp : p ∈ X.pn) : HotB X p.1 :=
  ⟨fun I => ⟨c.1, p.2, c.2.choose, (I.pin p (List.mem_append_left _ hp)).1, c.2.choose_spec⟩, fun f => f.2.2.2.2.2 p (List.mem_append_left _ hp)⟩
theorem hotB_blk {pins : List (Addr × Obj)} {σ : L2.St} {H : Hp} {s : Shared} {scope : Scope} {ce : Env} {fp : List Addr} (c : HotB X x1) (I : Inv X pins σ H s) (n : H x1 = none) (f : x1 ∉ frs X.stack) (o : x1 ∉ fp) : HotB (X.blk s H scope ce fp) x1 := by
  have h0 := c.hot I
  have l0 := hot_lt h0
  refine ⟨fun {_ _ _ _} J => hot_keep h0 fun u g => J.base.keep x1 u g n f o, fun {_ _ b} q e => ?_⟩
  rcases q.2.2.2.1 with z | z
  · exact o (e ▸ z)
  · exact Nat.lt_irrefl _ (Nat.lt_of_lt_of_le (e ▸ l0) z)
/-- (a, b) = a tuple of that length -/
theorem pg_tupH {es : List Expr} {k n : Nat} {t : TGs} {pos : Pos} {K' : PySem.W.Frag} (c : HotB X x1) (h : PGs X es t) (hn : (assignEach es X.env).length = n := by rfl) (hst : (assignEach es X.env).findIdx? (·.1) = none := by rfl)
    (hK : X.K = K' := by first | rfl | (dsimp only; rfl)) : PG X (.Tuple es k pos) (gTup K' n t) := by
  subst hK
  refine ⟨fun pins s σ H v u Q I r ⟨a, xs, e1, hq, hl, hw⟩ => ?_⟩
  subst e1
  cases r
  obtain ⟨its, rv, ht, hz⟩ := I.tuple hq
  exact unpackH (c.hot I) ht (by simp [hn, ← hl, rv.length]) hst fun h' hx => h.run pins _ σ H xs _ Q (I.kept (t' := s.toks) fun b o e => hx b o (Nat.ne_of_lt (Heap.lt_size e)) e) (by simpa using rv) hw
end
/-- HandS' Turn, where an exception is handled -/
structure TurnB (P : Program) (w : World) (K : PySem.W.Frag) (tg : Expr) (J : It) (fp : List Addr) (it : Addr) (tn : Nat → Heap → Prop) : Prop where
  mem : it ∈ fp
  obj : ∀ i h, tn i h → ∀ b ∈ fp, ∃ o, h.get? b = some o ∧ ∀ v, o.data ≠ .cell v
  keep : ∀ i h h', tn i h → (∀ b ∈ fp, ∀ o, h.get? b = some o → h'.get? b = some o) → tn i h'
  item : ∀ (X : Cx), X.prog = P ∧ X.w = w ∧ X.K = K → ∀ (i : Nat) (pins : List (Addr × Obj)) (s : Shared) (σ : L2.St) (H : Hp) (E : Value → Shared → Prop), Inv X pins σ H s ∧ (∀ b ∈ fp, FpOk X pins H b) ∧ tn i s.heap ∧ J.go i H →
    wpAny (model P w) X.A (pyNext (.ref it)) (fun r s1 => ∃ u, r = some u ∧ wpAny (model P w) X.A (letOwnedTupleGo tg (.ref it) u) (fun _ s2 => ∃ x H', Inv X pins σ H' s2 ∧ RelV x u ∧ J.yld i H x H' ∧ tn (i + 1) s2.heap ∧ ∀ b ∈ fp, H' b = none) E s1) E s
  done : ∀ (X : Cx), X.prog = P ∧ X.w = w ∧ X.K = K → ∀ (x1 : Addr), HotB X x1 → ∀ (i : Nat) (pins : List (Addr × Obj)) (s : Shared) (σ : L2.St) (H : Hp) (E : Value → Shared → Prop), Inv X pins σ H s ∧ (∀ b ∈ fp, FpOk X pins H b) ∧ tn i s.heap ∧ J.stop i H →
    wpAny (model P w) X.A (pyNext (.ref it)) (fun r s1 => r = none ∧ Inv X pins σ H s1) E s
  self : ∀ (A : Around) (i : Nat) (s : Shared) (Q : Value → Shared → Prop) (E : Value → Shared → Prop), tn i s.heap → Q (.ref it) s → wpAny (model P w) A (pyIter (.ref it)) Q E s
/-- HandS' PI with such turns -/
def PIB (X : Cx) (tg iter : Expr) (wi : TI) : Prop := ∀ (pins : List (Addr × Obj)) (s : Shared) (σ : L2.St) (H : Hp) (R : It → Hp → Prop), Inv X pins σ H s → wi σ H R →
  wpAny (model X.prog X.w) X.A (eval iter X.env) (fun v s1 => wpAny (model X.prog X.w) X.A (pyIter v) (fun itv s2 => ∃ (it : Addr) (fp : List Addr) (tn : Nat → Heap → Prop) (J : It) (H' : Hp), itv = .ref it ∧ Inv X pins σ H' s2 ∧ TurnB X.prog X.w X.K tg J fp it tn ∧ tn 0 s2.heap ∧ (∀ b ∈ fp, FpOk X pins H' b) ∧ R J H') X.xe s1) X.xe s
theorem turnB_zip {P : Program} {w : World} {K : PySem.W.Frag} {elts : List Expr} {kk : Nat} {tpos : Pos} {a b z TI TO i1 i2 : Addr} (D : ZipApart z TI TO i1 i2 a b) :
    TurnB P w K (.Tuple elts kk tpos) (Itz K a b) [z, TI, TO, i1, i2] z (fun i h => IsZip h z TI TO .none ∧ IsPair h TI (.ref i1) (.ref i2) ∧ (∃ x y, IsPair h TO x y) ∧ h.IsListIter i1 a i ∧ h.IsListIter i2 b i) := by
  refine ⟨(turn_zip (P := P) (w := w) (K := K) (elts := elts) (kk := kk) (tpos := tpos) D).mem, (turn_zip (P := P) (w := w) (K := K) (elts := elts) (kk := kk) (tpos := tpos) D).obj, (turn_zip (P := P) (w := w) (K := K) (elts := elts) (kk := kk) (tpos := tpos) D).keep, ?_, ?_,
    (turn_zip (P := P) (w := w) (K := K) (elts := elts) (kk := kk) (tpos := tpos) D).self⟩
  · rintro X ⟨rfl, rfl, rfl⟩ i pins s σ H E ⟨I, hf, ⟨hz, hTI, ⟨x0, y0, hTO⟩, h1, h2⟩, xs, ys, x, y, hqx, hqy, hx, hy⟩
    obtain ⟨its, rv, p, _⟩ := I.list hqx
    obtain ⟨its2, rv2, p2, _⟩ := I.list hqy
    obtain ⟨u, hu, ru⟩ := rv.get hx
    obtain ⟨u2, hu2, ru2⟩ := rv2.get hy
    have lts : ∀ c ∈ [z, TI, TO, i1, i2], c < s.heap.objs.size := fun c hc => by
      simp only [List.mem_cons, List.not_mem_nil, or_false] at hc
      obtain ⟨_, q1, _⟩ := id h1
      obtain ⟨_, q2, _⟩ := id h2
      rcases hc with e | e | e | e | e
      · exact e ▸ Heap.lt_size hz
      · exact e ▸ Heap.lt_size hTI
      · exact e ▸ Heap.lt_size hTO
      · exact e ▸ Heap.lt_size q1
      · exact e ▸ Heap.lt_size q2
    have nz : s.heap.objs.size ≠ z := Nat.ne_of_gt (Heap.lt_size hz)
    refine wpAny_pyNext_zip_item D hz hTI hTO h1 h2 p.isList p2.isList (x := u) (y := u2) (by simpa using hu) (by simpa using hu2) fun h' z' TO' h1' h2' hT hsz hk => ⟨_, rfl, wpAny_letOwnedTupleGo_zip (s := { s with heap := h' }) z' fun h'' z'' sb => ?_⟩
    have new : ObjOk X.prog X.w (upd H s.heap.objs.size (.tup [x, y])) h'' s.heap.objs.size (.tup [x, y]) := ⟨(show 2 ≤ sizeLine by decide), [u, u2], .cons ru (.cons ru2 .nil), ⟨_, (sb.2 _ nz).trans hT, rfl, _, rfl⟩⟩
    have kk : ∀ c o, c ∉ [z, TI, TO, i1, i2] → s.heap.get? c = some o → h''.get? c = some o := fun c o hb q => by
      simp only [List.mem_cons, List.not_mem_nil, or_false, not_or] at hb
      exact (sb.2 c hb.1).trans (hk c o hb.1 hb.2.2.1 hb.2.2.2.1 hb.2.2.2.2 q)
    refine ⟨.ref s.heap.objs.size, _, I.turnedNew (t' := s.toks) kk hf (Nat.le_refl _) new, rfl, ⟨_, x, y, rfl, I.hok.fresh (Nat.le_refl _), rfl, fun l hl => by rw [I.list_inj hl hqx]; exact hx, fun l hl => by rw [I.list_inj hl hqy]; exact hy⟩, ⟨z'', (sb.2 _ D.TIz).trans (hk _ _ D.TIz D.TITO D.TIi1 D.TIi2 hTI), ⟨u, u2, (sb.2 _ D.TOz).trans TO'⟩, h1'.at fun o q => (sb.2 _ D.i1z).trans q, h2'.at fun o q => (sb.2 _ D.i2z).trans q⟩, fun c hcm => ?_⟩
    rw [upd_ne (Nat.ne_of_lt (lts c hcm))]
    exact (hf c hcm).1
  · rintro X ⟨rfl, rfl, rfl⟩ x1 hot i pins s σ H E ⟨I, hf, ⟨hz, hTI, ⟨x0, y0, hTO⟩, h1, h2⟩, xs, ys, hqx, hqy, hend⟩
    obtain ⟨its, rv, p, _⟩ := I.list hqx
    obtain ⟨its2, rv2, p2, _⟩ := I.list hqy
    have l1 := rv.length
    have l2 := rv2.length
    have out : ∀ c ∈ [z, TI, TO, i1, i2], x1 ≠ c := fun c hc => hot.out (hf c hc)
    refine zip_endH (hot.hot I) (out z (by simp)) (out TO (by simp)) (out i1 (by simp)) (out i2 (by simp)) D hz hTI hTO h1 h2 p.isList p2.isList (hend.imp (fun q => by simp; omega) fun q => by simp; omega) fun h' hk => ⟨rfl, I.turnedL (t' := s.toks) (fun c o hb q => ?_) hf⟩
    simp only [List.mem_cons, List.not_mem_nil, or_false, not_or] at hb
    exact hk c o hb.1 hb.2.2.1 hb.2.2.2.1 hb.2.2.2.2 q
theorem piB_zip {X : Cx} {e e2 : Expr} {ta : TA} {p pos tpos : Pos} {elts : List Expr} {kk : Nat} (hg : Gl X "zip") (hm : X.mg "zip" = none) (ha : PA X [e, e2] ta) (hs : starEach [e, e2] X.env = (false, eval e X.env) :: starEach [e2] X.env := by rfl) (hpl : (backTo pos (starEach [e2] X.env)).any (·.1) = false := by rfl) :
    PIB X (.Tuple elts kk tpos) (.Call (.Name "zip" p) [e, e2] [] pos) (iZip X.K ta) := by
  intro pins s σ H R I h
  refine Call_ (ld_blt I hg hm PyProof.Rows.boot_zip (PyProof.Rows.callWith_type1 (thn (ha.run pos pins s σ H _ I h) fun us s1 ⟨vs, H1, I1, r1, a, b, xs, ys, ex, hqx, hqy, q⟩ => ?_) hs hpl))
  subst ex
  obtain ⟨u1, ur, rfl, r, rr⟩ : ∃ u1 ur, us = u1 :: ur ∧ RelV (.ref a) u1 ∧ Vals [.ref b] ur := by cases r1 with | cons r rr => exact ⟨_, _, rfl, r, rr⟩
  obtain ⟨u2, rfl, r'⟩ : ∃ u2, ur = [u2] ∧ RelV (.ref b) u2 := by cases rr with | cons r' r0 => cases r0; exact ⟨_, rfl, r'⟩
  cases (show u1 = Value.ref a from r)
  cases (show u2 = Value.ref b from r')
  obtain ⟨its, rv, p1, _⟩ := I1.list hqx
  obtain ⟨its2, rv2, p2, _⟩ := I1.list hqy
  refine call_zip_2 p1.isList p2.isList fun h' hz hTI hTO h1 h2 hsz hk => wpAny_pyIter_zip hz ⟨s1.heap.objs.size + 4, [s1.heap.objs.size + 4, s1.heap.objs.size + 2, s1.heap.objs.size + 3, s1.heap.objs.size, s1.heap.objs.size + 1], _, _, H1, rfl, I1.kept (t' := s1.toks) hk, turnB_zip (PySem.W.ktu_apart s1.heap.objs.size a b p1.lt p2.lt), ⟨hz, hTI, ⟨_, _, hTO⟩, h1, h2⟩, fun c hcm => ?_, q⟩
  have hle : s1.heap.objs.size ≤ c := by
    simp only [List.mem_cons, List.not_mem_nil, or_false] at hcm
    rcases hcm with e | e | e | e | e <;> rw [e] <;> first | exact Nat.le_refl _ | exact Nat.le_add_right _ _
  exact I1.fpOk hle (I1.hok.fresh hle)
/-- [elt for target in iter if ..] there -/
theorem pe_lcH {X : Cx} {p1 : Addr × Obj} {elt tg iter : Expr} {ifs : List Expr} {scope : Scope} {own : List (Str × Nat)} {pos : Pos} {wi : TI} {g : TG} {tt : TT} {te : TE} (hc : L2H.Hot1 X.A p1) (hp : p1 ∈ X.pn) (hN : X.N.Nodup) (hi : PIB X tg iter wi) (ok : BlkOk X.N X.env.scope scope own)
    (hg : ∀ (s : Shared) (H : Hp) (C : Addr) (cl : List (Str × Addr)) (fp : List Addr), HotB (X.blk s H scope (compEnvC scope cl C X.env) fp) p1.1 → PG (X.blk s H scope (compEnvC scope cl C X.env) fp) tg g ∧ PTs (X.blk s H scope (compEnvC scope cl C X.env) fp) ifs tt ∧ PE (X.blk s H scope (compEnvC scope cl C X.env) fp) elt te)
    (hs : ∀ x, foldedSetIterable iter X.env x = pure x := by intro _; rfl) : PE X (.ListComp elt [⟨tg, iter, ifs, 0⟩] scope pos) (tLc wi g tt te (own.map (·.2))) := by
  refine ⟨fun pins s σ H Q I h => ?_⟩
  rw [eval_ListComp]
  have hfr : ∀ y ∈ scope.names, y.2 = .free → ∃ c, X.env.cells.lookup y.1 = some c := fun y hy e => (ok.free y hy e).elim (fun k => I.ok.has _ (.inl k)) fun k => I.ok.has _ (.inr k)
  refine wpAny_comprehension_free rfl hs (closure_ok hfr) ok.kind (fun y hy e => by rw [ok.uniq y hy, e]) (thn (hi pins s σ H _ I h) fun xv s1 hx => thn hx fun itv s2 ⟨it, fp, tn, J, H2, e, I2, T, st2, f2, q⟩ => ?_)
  subst e
  refine wpAny_newObj_type (newEnv_comp ?_) (show 0 ≤ sizeLine by decide)
  generalize hD : s2.heap.objs.size = D
  obtain ⟨W, ⟨m0, w0⟩, turn⟩ := q D (I2.hok.fresh (Nat.le_of_eq hD))
  generalize e3 : ({ s2 with heap := s2.heap.push { cls := .type "list", data := .seq ([] : List Value).toArray } } : Shared) = s3
  have h3 : s3.heap = s2.heap.push { cls := .type "list", data := .seq ([] : List Value).toArray } := by rw [← e3]
  have I3 : Inv X pins σ (upd H2 D (.lst [])) s3 := by
    rw [← e3]
    exact I2.laid (t' := s2.toks) (fun b o z => Heap.get?_push_of_some _ z) (Nat.le_of_eq hD) ⟨Nat.zero_le _, [], 0, .nil, hD ▸ Heap.get?_push_size _ rfl⟩
  have f3 : ∀ b ∈ fp, FpOk X pins (upd H2 D (.lst [])) b ∧ b < s3.heap.objs.size := fun b hb => by
    obtain ⟨o, z, _⟩ := T.obj _ _ st2 b hb
    have lt := Heap.lt_size z
    refine ⟨⟨(upd_ne (by rw [← hD]; exact Nat.ne_of_lt lt)).trans (f2 b hb).1, (f2 b hb).2⟩, ?_⟩
    rw [h3, Heap.size_push]
    exact Nat.lt_succ_of_lt lt
  have st3 : tn 0 s3.heap := T.keep _ _ _ st2 fun b _ o z => by rw [h3]; exact Heap.get?_push_of_some _ z
  have P1 := I3.pin p1 (List.mem_append_left _ hp)
  have hB := hotB_blk (s := s3) (scope := scope) (fp := fp) (ce := compEnvC scope (cellsFrom (s3.heap.objs.size + 1) scope.names (cloFrom X.env.cells scope.names [])) s3.heap.objs.size X.env) (hotB_pin hc hp) I3 P1.2.1
    (fun z => (List.mem_cons.mp (I3.stkSub _ z)).elim P1.2.2.1 P1.2.2.2.1) fun z => (f2 _ z).2.2.2.2.2 p1 (List.mem_append_left _ hp) rfl
  obtain ⟨pg, pt, pe⟩ := hg s3 (upd H2 D (.lst [])) s3.heap.objs.size (cellsFrom (s3.heap.objs.size + 1) scope.names (cloFrom X.env.cells scope.names [])) fp hB
  have I4 := block_start I3 ok hN f3
  have nfp : ∀ b ∈ fp, (upd H2 D (.lst [])) b = none := fun b hb => (f3 b hb).1.1
  show codeAny _ _ (.compStart (.ListComp elt [⟨tg, iter, ifs, 0⟩] scope pos) 0 (.ref it) (.ref D) (compEnvC scope (cellsFrom (s3.heap.objs.size + 1) scope.names (cloFrom X.env.cells scope.names [])) s3.heap.objs.size X.env)) (compPost (model X.prog X.w) X.A X.xe none _ (.ref D) s3.heap.objs.size) { s3 with heap := pushCells (s3.heap.push { cls := .type "dict", data := .dict #[] }) scope.names }
  generalize hce : compEnvC scope (cellsFrom (s3.heap.objs.size + 1) scope.names (cloFrom X.env.cells scope.names [])) s3.heap.objs.size X.env = ce at I4 pg pt pe hB ⊢
  have cL : ce.locals = s3.heap.objs.size := by rw [← hce] <;> rfl
  generalize hH3 : upd H2 D (.lst []) = H3 at I3 I4 pg pt pe hB w0 nfp f3
  generalize e4 : ({ s3 with heap := pushCells (s3.heap.push { cls := .type "dict", data := .dict #[] }) scope.names } : Shared) = s4 at I4 ⊢
  have st4 : tn 0 s4.heap := T.keep _ _ _ st3 fun b _ o z => by rw [← e4]; exact pushCells_keeps _ _ _ _ (Heap.get?_push_of_some _ z)
  have stat : ∀ {σ' : L2.St} {H' : Hp} {s' : Shared}, Inv (X.blk s3 H3 scope ce fp) [] σ' H' s' → (∀ b ∈ fp, H' b = none) → ∀ b ∈ fp, FpOk (X.blk s3 H3 scope ce fp) [] H' b := fun I' n b hb =>
    ⟨n b hb, (I'.ok.exf b hb).1, I'.ok.exfs b hb, .inl hb, fun x c z => (I'.ok.exf b hb).2 x c z, fun p hq => absurd (show p ∈ ([] : List (Addr × Obj)) ++ [] from hq) (by simp)⟩
  have loop : codeAny (model X.prog X.w) X.A (.compLoop (.ListComp elt [⟨tg, iter, ifs, 0⟩] scope pos) 0 (.ref it) (.ref D) ce) (compPost (model X.prog X.w) X.A X.xe none (EP X pins σ Q) (.ref D) s3.heap.objs.size) s4 := by
    refine compLoop_any (fun n s' => ∃ i H', Inv (X.blk s3 H3 scope ce fp) [] (wipe σ (own.map (·.2))) H' s' ∧ tn i s'.heap ∧ (∀ b ∈ fp, H' b = none) ∧ W i n H') ?_ m0 ⟨0, H3, I4, st4, nfp, w0⟩
    rintro n s5 ⟨i, H5, I5, st5, n5, w5⟩
    rcases turn i n H5 w5 with ⟨stop, qq⟩ | ⟨go, Nx, hNx, step⟩
    · refine thnF (T.done (X.blk s3 H3 scope ce fp) ⟨rfl, rfl, rfl⟩ p1.1 hB i [] s5 _ H5 (fun _ _ => False) ⟨I5, stat I5 n5, st5, stop⟩) fun r s6 ⟨hr, I6⟩ => ?_
      subst hr
      have I7 : Inv X pins σ H5 s6 := I3.call' (ch := fp) I6.os I6.base I6.hok I6.bare fun b hb => ⟨(f3 b hb).1.2.2.2.1, (f3 b hb).1.2.1, (f3 b hb).1.2.2.2.2.1, (f3 b hb).1.2.2.2.2.2⟩
      have nC : H5 s3.heap.objs.size = none := cL ▸ (show H5 ce.locals = none from I6.free)
      obtain ⟨m, hn, _⟩ := I6.loc
      have hn : s6.heap.Ns s3.heap.objs.size m := cL ▸ (show s6.heap.Ns ce.locals m from hn)
      obtain ⟨y0, y1, y2, y3, y4, y5⟩ := I3.fpOk (Nat.le_refl _) nC
      exact ⟨m, hn, fun h'' sb => ⟨.ref D, H5, I7.turned (t' := s6.toks) (fun b o hb z => (sb.2 b hb).trans z) y0 y1 y3 y4 y5, rfl, qq⟩⟩
    · refine thnF (T.item (X.blk s3 H3 scope ce fp) ⟨rfl, rfl, rfl⟩ i [] s5 _ H5 (fun _ _ => False) ⟨I5, stat I5 n5, st5, go⟩) fun r s6 ⟨u, hr, h6⟩ => ?_
      subst hr
      refine thnF h6 fun _ s7 ⟨x, H7, I7, r7, y7, st7, n7⟩ => ?_
      refine thnF (pg.run _ s7 _ H7 x u _ (I7.pinned (stat I7 n7) (T.obj _ _ st7)) r7 (step x H7 y7)) fun _ s8 ⟨σ8, H8, I8, hw8, q8⟩ => thnF (pt.run _ s8 σ8 H8 _ I8 q8) fun b s9 ⟨H9, I9, q9⟩ => ?_
      have fin : ∀ {s' : Shared} {H' : Hp}, Inv (X.blk s3 H3 scope ce fp) ([] ++ pinsAt fp s7.heap) σ8 H' s' → Nx H' → ∃ m, m < n ∧ ∃ i H', Inv (X.blk s3 H3 scope ce fp) [] (wipe σ (own.map (·.2))) H' s' ∧ tn i s'.heap ∧ (∀ b ∈ fp, H' b = none) ∧ W i m H' := fun {s' H'} I' nx => by
        obtain ⟨m', hm, w'⟩ := hNx H' nx
        have pin' : ∀ b ∈ fp, ∀ o, s7.heap.get? b = some o → s'.heap.get? b = some o ∧ H' b = none := fun b hb o z =>
          have y := I'.pin (b, o) (List.mem_append_right _ (List.mem_append_right _ (mem_pinsAt hb z)))
          ⟨y.1, y.2.1⟩
        refine ⟨m', hm, i + 1, H', (I'.unpinned (pins := [])).weak (by rw [← hw8, wipe_length]) (fun j v z => ?_), T.keep _ _ _ st7 fun b hb o z => (pin' b hb o z).1, fun b hb => ?_, w'⟩
        · rw [← hw8] at z
          exact (wipe_some z).1
        · obtain ⟨o, z, _⟩ := T.obj _ _ st7 b hb
          exact (pin' b hb o z).2
      cases b with
      | false => exact fin I9 (by simpa using q9)
      | true =>
        simp only [if_true] at q9 ⊢
        refine thnF (pe.run _ s9 σ8 H9 _ I9 q9) fun z s10 ⟨yv, H10, I10, r10, acc, hD10, hz10, nx⟩ => ?_
        exact app_ok (X := X.blk s3 H3 scope ce fp) I10 hD10 hz10 r10 fun s11 I11 => fin I11 nx
  exact codeAny_compStart_list loop (T.self X.A 0 _ _ _ st4 loop)
end Lx

set_option Elab.async false
set_option linter.all false
set_option maxRecDepth 100000
set_option maxHeartbeats 4000000
namespace Lx
open PySem PySem.Spec PyProof.Rows L2 HotX
/-! ### a def that is called within an except suite; its promise knows the object of the handled exception -/
structure FnP (P : Program) (w : World) (K : PySem.W.Frag) (mg : Str → Option Value) (base : Heap) (k : Nat) (f : Addr) (fd : FuncData) (ps : List Str) (sp : Addr × Obj → List V → Hp → VK → Prop) : Prop where
  len : ∀ p vs H Q, sp p vs H Q → vs.length = ps.length
  run : ∀ (A : Around) (outer : List Env) (s : Shared) (H : Hp) (args : Args) (us : List Value) (vs : List V) (Q : VK) (p : Addr × Obj), L2H.RoomH k A → L2H.Hot1 A p → L2H.PinOk outer H s p → Env0 P w K mg base A outer s H → BindsTo s fd args (ps.zip us) → Vals vs us → sp p vs H Q →
    codeAny (model P w) A (.call (.ref f) args) (fun r s' => ∃ u, r = .ok (.ret u) ∧ CE outer P w H s Q u s') s
section
variable {P : Program} {w : World} {K : PySem.W.Frag} {mg : Str → Option Value} {base : Heap} {k : Nat} {f : Addr} {x qual : Str} {params : Arguments} {body : List Stmt} {scope : Scope} {dvs : List V} {kws : List (Str × V)} {fd : FuncData} {N ps : List Str} {sp : Addr × Obj → List V → Hp → VK → Prop}
/-- by its body -/
theorem fnP_of (F : FunD K x qual params body scope dvs kws f fd) (S : FnScope N ps scope) (len : ∀ p vs H Q, sp p vs H Q → vs.length = ps.length)
    (hb : ∀ (cdv : Value) (A : Around) (outer : List Env) (s : Shared) (H : Hp) (vs : List V) (Q : VK) (p : Addr × Obj), L2H.Hot1 A p → L2H.RoomH k (A.deeper (envOfC qual scope s.heap.objs.size f cdv)) → sp p vs H Q →
      ∃ t, PSs (L2H.cxH CX0 P w K mg base N qual scope f cdv A outer s H (fun _ _ _ => False) p).nox body t ∧ t { nx := fun _ H' => Q .non H', rt := Q } (L2.start N vs) H) : FnP P w K mg base (k + 1) f fd ps sp := by
  obtain ⟨oc, od, dV, kV, doc, pm, an, cdv, ct, osl, rfl, lk, hcd, _, _⟩ := F.ex
  refine ⟨len, fun A outer s H args us vs Q p hr hot hpin e0 hbd r hsp => ?_⟩
  have hl := len _ _ _ _ hsp
  have KX : K.In s.heap := e0.mod.kin.keeps fun b o e => (e0.bs b o e).1
  have lim : s.heap.NoLimit := e0.mod.nolimit.keeps fun b o e => (e0.bs b o e).1
  have hk : ∀ y ∈ ps.zip us, scope.names.lookup y.1 = some .local ∨ (scope.names.lookup y.1 = some .cell ∧ ((cellsFrom (s.heap.objs.size + 1) scope.names []).lookup y.1).isSome = true) := fun ⟨n, v⟩ hy =>
    (S.par n (List.of_mem_zip hy).1).imp id fun q => ⟨q, PySem.W.cellsFrom_some _ _ _ (.inl q)⟩
  refine codeAny_call_function hr.depth (KX _ _ lk) rfl S.co S.gen rfl (PySem.W.codeRec_of KX hcd) (hbd _ _ _ _ (wpAny_newFunctionEnv_cells S.kind hk fun env he s1 x => ?_))
  subst he
  refine ⟨lim.keeps x.toInCall.keep, codeAny_func ?_⟩
  obtain ⟨t, ht, hq⟩ := hb cdv A outer s H vs Q p hot (hr.deeper _) hsp
  have I : Inv (L2H.cxH CX0 P w K mg base N qual scope f cdv A outer s H (fun _ _ _ => False) p) [] (L2.start N vs) H s1 := L2H.inv_startH S hpin e0 hl r x
  refine wpAny_mono (ht.run [] s1 (L2.start N vs) H _ (I.wish _) hq) (fun fl s' hs => ?_) fun e s' z => z.elim
  cases fl with
  | ret u =>
    obtain ⟨v, σ', H', J, rv, q⟩ := hs
    exact ⟨u, rfl, v, H', J.os, J.bare, J.base, J.hok, rv, q⟩
  | next =>
    obtain ⟨σ', H', J, q⟩ := hs
    exact ⟨.none, rfl, .non, H', J.os, J.bare, J.base, J.hok, rfl, q⟩
  | brk =>
    obtain ⟨_, _, _, z⟩ := hs
    exact z.elim
  | cont =>
    obtain ⟨_, _, _, z⟩ := hs
    exact z.elim
end
section
variable {X : Cx} {k : Nat} {f C : Addr} {fd : FuncData} {ps : List Str} {sp : Addr × Obj → List V → Hp → VK → Prop} {x : Str} {q pos : Pos} {e : Expr} {es : List Expr} {t : TA} {p : Addr × Obj}
/-- f(e, ..) within the suite -/
theorem pe_callP (F : FnP X.prog X.w X.K X.mg X.base k f fd ps sp) (hr : L2H.RoomH k X.A) (hc : L2H.Hot1 X.A p) (hp : p ∈ X.pn) (hg : Gl X x) (hm : X.mg x = some (.ref f)) (hk : PySem.W.keepIn X.K (.ref f) = true) (hb : Binds X.K fd ps []) (ha : PA X (e :: es) t)
    (hdb : (x == ("__debug__" : Str)) = false := by decide) (he : starEach (e :: es) X.env = (false, eval e X.env) :: starEach es X.env := by rfl) (hpl : (backTo pos (starEach es X.env)).any (·.1) = false := by rfl) :
    PE X (.Call (.Name x q) (e :: es) [] pos) (fun σ H Q => t σ H fun vs H1 => sp p vs H1 Q) := by
  refine ⟨fun pins s σ H Q I h => wpAny_Call_Name_kw (ld_glob I hg hm ?_ hdb)⟩
  refine PySem.W.callWith_K (h₀ := X.base) I.ok.mod.kin hk (thn (ha.run pos pins s σ H _ I h) fun us s1 ⟨vs, H1, I1, r, hsp⟩ => ⟨I1.kIn, ?_⟩) he hpl
  have hl : us.length = ps.length := by rw [← r.length]; exact F.len _ _ _ _ hsp
  have b := hb s1 us I1.kIn (by rw [List.append_nil]; exact hl)
  rw [List.append_nil] at b
  have P1 := I1.pin p (List.mem_append_left _ hp)
  refine wpAny_call (codeAny_mono (F.run X.A X.stack s1 H1 ⟨us, []⟩ us vs Q p hr hc ⟨P1.1, P1.2.1, fun hm => (List.mem_cons.mp (I1.stkSub p.1 hm)).elim P1.2.2.1 P1.2.2.2.1, P1.2.2.2.2⟩ I1.env0 b r hsp) fun r s' ⟨u, er, hq⟩ => ?_)
  subst er
  exact I1.after hq
/-- isinstance(e, c), e the exception that is handled, an instance of the class at D -/
def rIsP (K : PySem.W.Frag) (D a : Addr) (d : Option Addr) (f : List (Str × V)) : List V → Hp → VK → Prop := fun xs H Q => ∃ (c : V) (cv : Value) (b : Bool) (dd : Addr), xs = [.ref a, c] ∧ (∀ u, RelV c u → u = cv) ∧ PySem.W.kitOne K (.ref D) cv = some b ∧ d = some dd ∧ H dd = some (.xd f) ∧ Q (.bl b) H
theorem call_isP {D : Addr} {fs : List (Str × V)} (c : L2.ExcC X.K D) (hp : p ∈ X.pn) {d : Option Addr} (hz : Zc (.ref D) d p.2) (hf : ∃ vs, p.2.data = .fields vs) : CallR X (.builtin "isinstance") (rIsP X.K D p.1 d fs) := by
  intro pins s σ H xs us Q I r ⟨y, cv, b, dd, ex, hcv, e, ed, hd, q⟩
  subst ex
  obtain ⟨u1, ur, rfl, r1, rr⟩ : ∃ u1 ur, us = u1 :: ur ∧ RelV (.ref p.1) u1 ∧ Vals [y] ur := by cases r with | cons r rr => exact ⟨_, _, rfl, r, rr⟩
  obtain ⟨u2, rfl, r2⟩ : ∃ u2, ur = [u2] ∧ RelV y u2 := by cases rr with | cons r' r0 => cases r0; exact ⟨_, rfl, r'⟩
  cases (show u1 = Value.ref p.1 from r1)
  cases hcv _ r2
  obtain ⟨mA, hns, _⟩ : ∃ mA, s.heap.Ns1 dd mA ∧ ∀ f, RelO (fs.lookup f) (mA f) := I.hok dd _ hd
  obtain ⟨oD, es, ep, hoD, _⟩ := hns
  obtain ⟨vs, hv⟩ := hf
  have J : PySem.W.InstAt s.heap p.1 p.2 D (some oD) := ⟨(I.pin p (List.mem_append_left _ hp)).1, hz.1, by unfold PySem.W.notCls; rw [hv], by rw [hz.2, ed]; exact hoD⟩
  obtain ⟨cd, hcd, _⟩ := PySem.W.any_some c.hd
  exact PySem.W.kia_one (PySem.W.kitx_exc (by rw [hcd]; rfl) c.hg c.hk c.hs c.ha c.hn c.ht c.hm) I.kIn J e (fun z => nomatch z) fun tk => ⟨.bl b, H, I.kept (t' := tk) fun _ _ z => z, rfl, q⟩
end
/-! ### C(e, ..) for an own class of errors whose __init__ is walked: its context is None (raised where nothing is handled) -/
theorem pmk_oexN {X : Cx} {CX : CXT} {x : Str} {e : Expr} {es : List Expr} {ta : TA} {p pos : Pos} {C fI : Addr} {k : Nat} {fd : FuncData} {ps : List Str} {sp : Sp} (T : OexC X.K C) (iC : PySem.W.findIn X.K (.ref C) "__init__" = some (some (.ref fI))) (tI : PySem.W.typeIn X.K (.ref fI) = some (.type "function"))
    (F1 : FnOk X.prog X.w X.K X.mg X.base CX k fI fd ps sp) (hr : Room (k + 1) X.A) (hb : Binds X.K fd ps []) (hx : Passes CX X (fun _ _ _ => False)) (hg : Gl X x) (hm : X.mg x = some (.ref C)) (ha : PA X (e :: es) ta) (hdb : (x == ("__debug__" : Str)) = false := by decide)
    (he : starEach (e :: es) X.env = (false, eval e X.env) :: starEach es X.env := by rfl) (hpl : (backTo pos (starEach es X.env)).any (·.1) = false := by rfl) : L2N.PMk X (.Call (.Name x p) (e :: es) [] pos) (tMkO C sp [] ta) := by
  intro pins s σ H Q I h
  obtain ⟨nm, q, N, bs, bm, sn, sub, ab, col, dd, k0, k1, k2, k3, k5, hC, hbm⟩ := T.cls
  refine wpAny_Call_Name_kw (ld_glob I hg hm (PySem.W.callWith_K (h₀ := X.base) I.ok.mod.kin T.kC (thn (ha.run pos pins s σ H _ I h) fun us s1 ⟨vs, H1, I1, r1, hz, q1⟩ => ⟨I1.kIn, ?_⟩) he hpl) hdb)
  obtain ⟨hp, g, dr, tk, os⟩ := s1
  refine (show wpAny _ _ (call (.ref C) us) _ _ _ from ?_)
  have hsz : hp.objs.size ≤ hp.objs.size + 1 := Nat.le_succ _
  have hq := q1 _ (I1.hok.fresh hsz)
  generalize hg2 : (hp.push (PySem.W.kdv_tup us)).push (PySem.HandSPX.excO C hp.objs.size) = hp2 at *
  have kk : ∀ b o, hp.get? b = some o → hp2.get? b = some o := fun b o z => hg2 ▸ Heap.get?_push_of_some _ (Heap.get?_push_of_some _ z)
  have hget : hp2.get? (hp.objs.size + 1) = some (PySem.HandSPX.excO C hp.objs.size) := by rw [← hg2]; heap_get
  have I2 : Inv X pins σ (upd H1 (hp.objs.size + 1) (exo (hp.objs.size + 1) C none)) ⟨hp2, g, dr, tk, os⟩ := I1.laid (t' := tk) (h' := hp2) kk hsz (exo_ok hget)
  have r2 : Vals (V.ref (hp.objs.size + 1) :: (vs ++ [])) (Value.ref (hp.objs.size + 1) :: us) := .cons rfl (by rw [List.append_nil]; exact r1)
  have hl : (Value.ref (hp.objs.size + 1) :: us ++ []).length = ps.length := by
    rw [List.append_nil, ← r2.length]
    exact F1.len _ _ _ _ hq
  have b2 := hb ⟨hp2, g, dr, tk, os⟩ (Value.ref (hp.objs.size + 1) :: us) I2.kIn hl
  rw [List.append_nil] at b2
  have hus : us.length ≤ sizeLine := by rw [← r1.length, sizeLine_eq]; omega
  refine wpAny_call (PySem.HandSPX.call_own F.excBase_ValueError (fun Y => PySem.HandSPX.refsVE_contains Y bm hbm) (I1.kIn _ _ hC) (PySem.W.looks_findIn I1.kIn iC) (fun self => PySem.W.bind_fn I1.kIn self tI) hus ?_)
  rw [hg2]
  refine codeAny_mono (F1.run _ X.stack _ _ ⟨Value.ref (hp.objs.size + 1) :: us, []⟩ _ _ _ (fun _ _ _ => False) (hr.make C us []) (I2.env0.make C us []) b2 r2 hq) fun r s' z => ?_
  cases r with
  | error er => exact hx pins σ _ _ er s' I2 z
  | ok fl =>
    cases fl with
    | ret u =>
      obtain ⟨v, H2, os2, bare2, un2, hok2, rv, ev, d, fs, ea, ed, hd1, q2⟩ := z
      subst ev
      obtain ⟨h2, g2, d2, t2, os'⟩ := s'
      obtain ⟨t0, G, J, kG, ge, hoe, na⟩ := mk_end0 (d2 := d2) (t2 := t2) I1 hsz kk un2 hok2 os2 bare2 ea ed hd1
      refine ⟨rv, hp.objs.size + 1, _, _, ⟨G, g2, d2, t2, os'⟩, _, .ref C, some d, rfl, J, kG, ge, hoe, ⟨rfl, rfl, fun ws e2 => ?_⟩, rfl, rfl, na, rfl, bare2, raises_own T.exC T.tyC, q2⟩
      cases e2
      rfl
    | next => exact z.elim
    | brk => exact z.elim
    | cont => exact z.elim
end Lx

set_option Elab.async false
set_option linter.all false
set_option maxRecDepth 100000
set_option maxHeartbeats 4000000
/-! def __init__(self, ..): super().__init__(e); .. in an own class of errors over ValueError -/
namespace Lx
open PySem PySem.Spec PyProof.Rows L2 HotX
/-- such a def as it stands behind the top: __class__ its one captured name -/
structure SupF (P : Program) (K : PySem.W.Frag) (C : Addr) (qual : Str) (params : Arguments) (body : List Stmt) (scope : Scope) (f : Addr) (fd : FuncData) : Prop where
  ex : ∃ (oc : Value) (od : Option Addr) (doc pm ct : Value) (cc c : Addr) (osl : Array (Option Value)), fd = (⟨"__init__", qual, params, body, scope, [("__class__", cc)], c⟩ : NdefX.NF).fd doc pm ct ∧ K.lookup f = some ⟨oc, od, .func fd, osl⟩ ∧ PySem.W.codeIn K (.ref c) qual = true ∧
    (∃ v1 v2 v3, K.lookup cc = some ⟨v1, v2, .cell (some (.ref C)), v3⟩) ∧ ∃ v1 v2 vs v3 file tf, K.lookup c = some ⟨v1, v2, .fields vs, v3⟩ ∧ vs[2]? = some (.str file tf) ∧ ((P.main.file : Str) == file) = true
  kp : PySem.W.keepIn K (.ref f) = true
/-- what super() asks of the class, of the module -/
structure SupC (P : Program) (K : PySem.W.Frag) (C : Addr) : Prop where
  o : OexC K C
  any : PySem.W.nsIn K cStatics "thirdparty.any" = some none
  sup : PySem.W.nsIn K mainGlobals "super" = some none
  top : (P.main.scope.names.lookup ("super" : Str)).isSome = false
  own : PySem.W.mroIn K C (.ref C) = some true
  nxt : PySem.W.ks_superIn K C C "__init__" = some (some (.builtin "ValueError.__init__"))
  isv : PySem.W.subIn K (.ref C) (.type "ValueError") = some true
section
variable {P : Program} {w : World} {K : PySem.W.Frag} {mg : Str → Option Value} {base : Heap} {C f : Addr} {qual : Str} {params : Arguments} {scope : Scope} {fd : FuncData} {N ps : List Str} {k : Nat} {sp : Sp} {CX : CXT}
/-- the call of the bound ValueError.__init__ -/
theorem call_mw {X : Cx} {pins : List (Addr × Obj)} {σ : L2.St} {H : Hp} {s : Shared} {u a : Addr} {us : List Value} {E : Value → Shared → Prop} {Q : Value → Shared → Prop} (T : OexC X.K C) (I : Inv X pins σ H s) (hu : s.heap.get? u = some (PySem.W.kxs_mw "ValueError.__init__" a)) (e : H a = some (exo a C none)) (hl : us.length ≤ sizeLine)
    (h : ∀ s', Inv X pins σ H s' → Q .none s') : wpAny (model X.prog X.w) X.A (call (.ref u) us) Q E s := by
  obtain ⟨nm, q, N, bs, bm, sn, sub, ab, col, dd, k0, k1, k2, k3, k5, hC, hbm⟩ := T.cls
  obtain ⟨t1, ho⟩ := exo_at I.hok e
  obtain ⟨hp, g, d, t, os⟩ := s
  refine wpAny_call (codeAny_of_tree ?_)
  refine (show wpAny _ X.A.in1 (callAny (.ref u) ⟨us, []⟩) _ _ _ from ?_)
  simp only [callAny]
  refine wpAny_bind (wpAny_load hu ?_)
  simp only [PySem.W.kxs_mw, show (Value.type "method-wrapper" == Value.type "method" || Value.type "method-wrapper" == Value.type "builtin_function_or_method" || Value.type "method-wrapper" == Value.type "method-wrapper") = true by decide, if_true]
  refine PySem.W.KFB.if_so (by decide) (wpAny_bind (PySem.W.check_bound_init F.excBase_ValueError.toExcCallFacts (I.kIn _ _ hC) ho rfl (wpAny_bind (wpAny_pure (wpAny_pure ⟨plainId_quiet F.excBase_ValueError.init.plain _, codeAny_builtin F.excBase_ValueError.initEntry ?_⟩)))))
  refine PySem.W.exc_init_tree (cls := .ref C) (t0 := t1) (dv := none) (c2 := .none) (c3 := .none) (b4 := .bool false) ho hl fun h' k' hx _ => ?_
  have J := I.write (t' := t) (x := a) (e := a) (o := exo a C none) (by rw [e]; exact True.intro) (.inl rfl) k' ⟨_, hx⟩ (exo_ok hx)
  have eu : upd H a (exo a C none) = H := by
    funext b
    by_cases hb : b = a
    · rw [hb, upd_same, e]
    · rw [upd_ne hb]
  rw [eu] at J
  exact h _ J
/-- the first statement, then the rest -/
theorem sup_run {X : Cx} {σ : L2.St} {H : Hp} {s : Shared} {D : Ends} {f a cc c : Addr} {oc od fd osl v1 v2 v3 w1 w2 w3} {ws : Array Value} {file : Str} {tf : Tok} {ar : Arg} {e : Expr} {rest body : List Stmt} {p0 p1 p2 p3 p4 : Pos} {te : TA} {tr : TS} {pl : Sem Bool} (I : Inv X [] σ H s) (G : SupC X.prog X.K C)
    (lk : X.K.lookup f = some ⟨oc, od, .func fd, osl⟩) (hcc : X.K.lookup cc = some ⟨v1, v2, .cell (some (.ref C)), v3⟩) (hco : X.K.lookup c = some ⟨w1, w2, .fields ws, w3⟩) (hfl : ws[2]? = some (.str file tf)) (hfile : ((X.prog.main.file : Str) == file) = true)
    (har : (fd.params.posonlyargs ++ fd.params.args).head? = some ar) (k1 : X.env.kindOf ("super" : Str) = some .globalImplicit) (k2 : X.env.kindOf ("__class__" : Str) = some .free) (k3 : X.env.kindOf ar.arg = some .local) (ef : X.env.func = some f) (ec : X.env.code = .ref c) (el : X.env.cells.lookup ("__class__" : Str) = some cc)
    (hn : ∃ m, s.heap.Ns X.env.locals m ∧ m ar.arg = some (.ref a)) (hst : starEach [e] X.env = [(false, eval e X.env)]) (hi : interactive X.env = false) (hsw : swapsWith (.Call (.Attribute (.Call (.Name "super" p0) [] [] p1) "__init__" p2) [e] [] p3) none p4.line X.env = pure false) (hce : eval (.Call (.Attribute (.Call (.Name "super" p0) [] [] p1) "__init__" p2) [e] [] p3) X.env = (do
      let ov ← attributeBase (.Call (.Name "super" p0) [] [] p1) "__init__" X.env (eval (.Call (.Name "super" p0) [] [] p1) X.env)
      standAt p2.atName
      let (f, first) ← holding [ov] (getMethod ov "__init__" pl)
      callWith p3 f first (backTo p3 (starEach [e] X.env)) []))
    (ha : H a = some (exo a C none)) (he : PA X [e] te) (hr : PSs X rest tr) (q : te σ H fun vs H1 => vs.length ≤ 1000 ∧ H1 a = some (exo a C none) ∧ tr D σ H1) :
    _root_.PySem.wpAt (model X.prog X.w) X.A (.func body X.env) (execs (.Expr (.Call (.Attribute (.Call (.Name "super" p0) [] [] p1) "__init__" p2) [e] [] p3) p4 :: rest) X.env) (SP X [] D) X.xe s := by
  obtain ⟨nm, q', N', bs, bm, sn, sub, ab, col, dd, k0, k1', k2', k3', k5, hC, hbm⟩ := G.o.cls
  have hcl : PySem.W.clsIn X.K C = some { name := nm, bases := bs, mro := .ref C :: bm, ns := N', qualname := q', hasDict := true, slotNames := sn, subclasses := sub, abstract := ab, collection := col, hasDel := false } := by unfold PySem.W.clsIn; rw [hC] <;> rfl
  obtain ⟨mL, hn, hml⟩ := hn
  refine ks_wpAt_execs_cons (ks_wpAt_Expr_any (ks_wpAt_MethodCall (ks_wpAt_super_base k1 k2 (by decide) ef (I.kIn _ _ lk) rfl har ec (I.kIn _ _ hco) rfl hfl hfile G.top ?_) hce) hi hsw)
  obtain ⟨mb, hb1, hb2⟩ := I.mod.blt
  refine PySem.W.ks_loadName_global I.ok.kind k1 (Calls.loadGlobal_builtin (by rw [I.ok.glob]; exact I.mod.glob.keeps I.bk) (PySem.W.mg_none_of I.ok.mod.kin I.mod.glob G.sup) (by rw [I.ok.blt]; exact hb1.keeps I.bk) ((hb2 _ (by decide)).trans (show bootBuiltins "super" = some (.type "super") by kernel_rfl)) ⟨rfl, ?_⟩)
  refine wpAny_loadName_free I.ok.kind k2 el ⟨_, I.kIn _ _ hcc, rfl⟩ (wpAny_loadName_local I.ok.kind k3 hn hml (ks_wpAny_isType_cls (I.kIn _ _ hC) rfl ⟨rfl, ?_⟩))
  obtain ⟨t1, ho⟩ := exo_at I.hok ha
  obtain ⟨hh, g, d, t, os⟩ := s
  refine ks_wpAny_call_super (I.kIn _ _ hC) rfl ho rfl (fun z y => nomatch y) (PySem.W.looks_mroIn I.kIn G.own) fun h1 e1 kp1 => ?_
  have I1 : Inv X [] σ H ⟨h1, g, d, t, os⟩ := I.kept (t' := t) kp1
  have isv : PySem.W.Looks (model X.prog X.w) h1 (isInstance (.ref a) (.type "ValueError")) true := PySem.W.Looks.andThen (a := .ref C) (fun A Q E s k q => wpAny_typeOf_ref (k _ _ (kp1 _ _ ho)) q) (PySem.W.looks_subIn I1.kIn G.isv)
  have hnx := G.nxt
  unfold PySem.W.ks_superIn at hnx
  rw [hcl] at hnx
  have naC : a ≠ C := fun z => by
    have y := I.kIn _ _ hC
    rw [← z, ho] at y
    cases y
  refine PySem.W.kxs_getMethod PySem.W.kxs_ValueError e1 (PySem.W.looks_opaque I1.kIn G.any) (l₀ := .ref C :: bm) (fun A Q E s k q => wpAny_bind ((PySem.W.looks_clsIn I1.kIn hcl) A _ E s k (wpAny_pure q))) rfl I1.kIn hnx isv naC (by decide) ?_
  have I2 : Inv X [(h1.objs.size, PySem.W.kxs_mw "ValueError.__init__" a)] σ H ⟨h1.push (PySem.W.kxs_mw "ValueError.__init__" a), g, d, t + 1, os⟩ := by
    have J : Inv X [] σ H ⟨h1.push (PySem.W.kxs_mw "ValueError.__init__" a), g, d, t + 1, os⟩ := I1.kept (t' := t + 1) fun b o z => Heap.get?_push_of_some _ z
    have fo := I1.fpOk (Nat.le_refl _) (I1.hok.fresh (Nat.le_refl _))
    refine J.pins_of fun p hp => ?_
    rw [List.mem_singleton.mp hp]
    exact ⟨Heap.get?_push_size _ rfl, fo.1, fo.2.1, fo.2.2.1, fun v z => nomatch z⟩
  refine PySem.W.kxs_callWith (i := "ValueError.__init__") (x := a) (by rw [hst]; rfl) ?_
  have pa := he.run p3 _ _ σ H _ I2 q
  rw [hst] at pa ⊢
  refine Calls.evalArgs_plain (thn pa fun us s2 ⟨vs, H2, I3, rv, hl, q1, q2⟩ => ?_)
  have P := (I3.pin _ (List.mem_append_right _ (List.mem_singleton.mpr rfl))).1
  refine ⟨P, call_mw G.o I3 P q1 (by show us.length ≤ sizeLine; rw [← rv.length, sizeLine_eq]; omega) fun s3 I4 => ?_⟩
  exact wpAt_of_wpAny (hr.run [] s3 σ H2 D (I4.pins_of fun p hp => nomatch hp) q2)
theorem SupF.ok {e : Expr} {rest : List Stmt} {p0 p1 p2 p3 p4 : Pos} {ar : Arg} {ps' : List Str} (F : SupF P K C qual params (.Expr (.Call (.Attribute (.Call (.Name "super" p0) [] [] p1) "__init__" p2) [e] [] p3) p4 :: rest) scope f fd) (G : SupC P K C)
    (har : (params.posonlyargs ++ params.args).head? = some ar) (hps : ps = ar.arg :: ps') (S : NdefX.NScope N ps ["__class__"] scope) (hks : scope.names.lookup ("super" : Str) = some .globalImplicit) (len : ∀ vs H Q E, sp vs H Q E → vs.length = ps.length)
    {pl : Sem Bool} (hst : ∀ env : Env, starEach [e] env = [(false, eval e env)] := by intro _; rfl)
    (hsw : ∀ env : Env, swapsWith (.Call (.Attribute (.Call (.Name "super" p0) [] [] p1) "__init__" p2) [e] [] p3) none p4.line env = pure false := by intro _; rfl)
    (hce : ∀ env : Env, eval (.Call (.Attribute (.Call (.Name "super" p0) [] [] p1) "__init__" p2) [e] [] p3) env = (do
      let ov ← attributeBase (.Call (.Name "super" p0) [] [] p1) "__init__" env (eval (.Call (.Name "super" p0) [] [] p1) env)
      standAt p2.atName
      let (f, first) ← holding [ov] (getMethod ov "__init__" pl)
      callWith p3 f first (backTo p3 (starEach [e] env)) []) := by intro _; rfl)
    (hb : ∀ (cc c : Addr) (A : Around) (outer : List Env) (s : Shared) (H : Hp) (vs : List V) (Q : VK) (E : XK) (X : Cx), X = NdefX.ncx CX P w K mg base N ⟨"__init__", qual, params, (.Expr (.Call (.Attribute (.Call (.Name "super" p0) [] [] p1) "__init__" p2) [e] [] p3) p4 :: rest), scope, [("__class__", cc)], c⟩ f A outer s H E → Room k X.A → sp vs H Q E →
      ∃ a vs', vs = .ref a :: vs' ∧ H a = some (exo a C none) ∧ ∃ te tr, PA X [e] te ∧ PSs X rest tr ∧ te (NdefX.startF N vs [some (.ref C)]) H fun vs1 H1 => vs1.length ≤ 1000 ∧ H1 a = some (exo a C none) ∧ tr { nx := fun _ H' => Q .non H', rt := Q } (NdefX.startF N vs [some (.ref C)]) H1) :
    FnOk P w K mg base CX (k + 1) f fd ps sp := by
  obtain ⟨oc, od, doc, pm, ct, cc, c, osl, rfl, lk, hcd, ⟨v1, v2, v3, hcc⟩, w1, w2, ws, w3, file, tf, hco, hfl, hfile⟩ := F.ex
  refine ⟨len, fun A outer s H args us vs Q E hr e0 hbd r hsp => ?_⟩
  have hl := len _ _ _ _ hsp
  have KX : K.In s.heap := e0.mod.kin.keeps fun b o z => (e0.bs b o z).1
  have lim : s.heap.NoLimit := e0.mod.nolimit.keeps fun b o z => (e0.bs b o z).1
  have hCc : NdefX.CellsAt [("__class__", cc)] ["__class__"] [some (.ref C)] s.heap H := by
    have key : ∀ y c', List.lookup y [(("__class__" : Str), cc)] = some c' → y = "__class__" ∧ c' = cc := fun y c' z => by
      have m := PySem.mem_of_lookup z
      simp only [List.mem_singleton] at m
      exact ⟨congrArg Prod.fst m, congrArg Prod.snd m⟩
    have hK : e0.mod.kin _ _ hcc = e0.mod.kin _ _ hcc := rfl
    have bs := e0.bs _ _ (e0.mod.kin _ _ hcc)
    refine ⟨rfl, fun y c' z => ?_, fun y z c' e1 e2 => (key _ _ e1).1.trans (key _ _ e2).1.symm, fun i y hy => ?_⟩
    · rw [(key _ _ z).2]
      exact ⟨bs.2, _, _, bs.1, rfl⟩
    · have hi : i = 0 := by
        by_cases z : i = 0
        · exact z
        · rw [List.getElem?_eq_none (by simp; omega)] at hy
          cases hy
      subst hi
      cases hy
      refine ⟨cc, rfl, fun v hv => ?_⟩
      cases hv
      exact ⟨.ref C, rfl, _, bs.1, rfl⟩
  refine ks_codeAny_call_defAt (fd := (⟨"__init__", qual, params, _, scope, [("__class__", cc)], c⟩ : NdefX.NF).fd doc pm ct) (body := (.Expr (.Call (.Attribute (.Call (.Name "super" p0) [] [] p1) "__init__" p2) [e] [] p3) p4 :: rest)) (binds := ps.zip us) hr.depth (KX _ _ lk) rfl lim (PySem.W.codeRec_of KX hcd) rfl hbd (fun y hy => S.nocell y hy) (fun ⟨n, _⟩ hy => S.par n (List.of_mem_zip hy).1) (fun h₁ hns hk₁ => ?_) S.co S.gen S.kind
  obtain ⟨a, vs', ev, ha, te, tr, he, hrest, hq⟩ := hb cc c A outer s H vs Q E _ rfl (hr.deeper _) hsp
  subst ev hps
  have I := NdefX.inv_startN (CX := CX) (P := P) (w := w) (N := N) (f := f) (E := E) (tk := s.toks + ((ar.arg :: ps').zip us).length) (F := ⟨"__init__", qual, params, (.Expr (.Call (.Attribute (.Call (.Name "super" p0) [] [] p1) "__init__" p2) [e] [] p3) p4 :: rest), scope, [("__class__", cc)], c⟩) S hr.hd e0 hl r hCc hns hk₁
  obtain ⟨u0, ur, eu, ru0⟩ : ∃ u0 ur, us = u0 :: ur ∧ RelV (.ref a) u0 := by cases r with | cons r rr => exact ⟨_, _, rfl, r⟩
  subst eu
  cases (show u0 = Value.ref a from ru0)
  have nd : (ar.arg :: ps').Nodup := by
    have z := S.nd.sublist (List.take_sublist ((ar.arg :: ps').length + 1) N)
    rw [show N.take ((ar.arg :: ps').length + 1) = (ar.arg :: ps') ++ [("__class__" : Str)] from S.pre] at z
    exact (List.nodup_append.mp z).1
  have hin : interactive (NdefX.envF ⟨"__init__", qual, params, (.Expr (.Call (.Attribute (.Call (.Name "super" p0) [] [] p1) "__init__" p2) [e] [] p3) p4 :: rest), scope, [("__class__", cc)], c⟩ f s.heap.objs.size) = false := by
    show (scope.kind == _ && _) = false
    rw [S.kind]
    rfl
  refine ks_wpAt_mono (sup_run (pl := pl) I G lk hcc hco hfl hfile har hks (S.frk _ (List.mem_singleton.mpr rfl)) (S.par _ (List.mem_cons_self ..)) rfl rfl rfl ⟨_, hns, ?_⟩ (hst _) hin (hsw _) (hce _) ha he hrest hq) (fun fl s' hs => ?_) (fun e s' hs => hs)
  · exact NdefX.zip_look (i := 0) nd rfl rfl
  · cases fl with
    | ret u =>
      obtain ⟨v, σ', H', J, rv, q⟩ := hs
      exact ⟨v, H', J.os, J.bare, J.base, J.hok, rv, q⟩
    | next =>
      obtain ⟨σ', H', J, q⟩ := hs
      exact ⟨.non, H', J.os, J.bare, J.base, J.hok, rfl, q⟩
    | brk =>
      obtain ⟨_, _, _, z⟩ := hs
      exact z.elim
    | cont =>
      obtain ⟨_, _, _, z⟩ := hs
      exact z.elim
end
end Lx

set_option Elab.async false
set_option linter.all false
set_option maxRecDepth 100000
set_option maxHeartbeats 4000000
/-! the head's hook: defs with __class__, classes of errors -/
namespace Lx
open PySem PySem.Spec PyProof.Rows L2
/-- an own error's __init__ that calls super() -/
structure SupD where
  cls : Str
  qual : Str
  params : Arguments
  body : List Stmt
  scope : Scope
abbrev FnN : Type := Option (Str × Str × Arguments × FuncBody × Scope × Addr × List Str × Addr)
def fnN (K : PySem.W.Frag) (p : Str × Option Str) : FnN := match He.fnW K p with
  | some (a, b, c, d, e, f, g, h) => some (a, b, c, d, e, f, g.map (·.1), h)
  | none => none
def SupD.val (d : SupD) : FnN := some ("__init__", d.qual, d.params, .stmts d.body, d.scope, mainGlobals, ["__class__"], builtinsNs)
def SupD.at_ (d : SupD) : Str × Option Str := (d.cls, some "__init__")
abbrev clsA (K : PySem.W.Frag) (x : Str) : Addr := He.ga K x
abbrev iniA (K : PySem.W.Frag) (x : Str) : Addr := He.ma K (He.ga K x) "__init__"
def cellB (K : PySem.W.Frag) (cc C : Addr) : Bool := match K.lookup cc with
  | some ⟨_, _, .cell (some (.ref D)), _⟩ => decide (D = C)
  | _ => false
def fileB (K : PySem.W.Frag) (c : Addr) (file : Str) : Bool := match K.lookup c with
  | some ⟨_, _, .fields vs, _⟩ => (match (vs[2]? : Option Value) with
    | some (Value.str f _) => file == f
    | _ => false)
  | _ => false
def supB (K : PySem.W.Frag) (C f : Addr) (qual file : Str) : Bool := match K.lookup f with
  | some ⟨_, _, .func fd, _⟩ => (match fd.defaults, fd.kwdefaults, fd.annotations, fd.code, fd.closure with
    | .none, .none, none, .ref c, [(_, cc)] => PySem.W.codeIn K (.ref c) qual && (cellB K cc C && fileB K c file)
    | _, _, _, _, _ => false)
  | _ => false
theorem supF_ok {P : Program} {K : PySem.W.Frag} {d : SupD} (hf : fnN K d.at_ = d.val) (hb : supB K (clsA K d.cls) (iniA K d.cls) d.qual P.main.file = true) (hk : PySem.W.keepIn K (.ref (iniA K d.cls)) = true) :
    ∃ fd, SupF P K (clsA K d.cls) d.qual d.params d.body d.scope (iniA K d.cls) fd := by
  unfold supB at hb
  cases lk : K.lookup (iniA K d.cls) with
  | none => rw [lk] at hb; cases hb
  | some o =>
    obtain ⟨oc, od, dt, osl⟩ := o
    rw [lk] at hb
    cases dt with
    | func fd =>
      have e1 : fnN K d.at_ = some (fd.name, fd.qualname, fd.params, fd.body, fd.scope, fd.globals, fd.closure.map (·.1), fd.builtins) := by
        unfold fnN He.fnW
        rw [show K.lookup (He.fAd K d.at_) = _ from lk]
      rw [hf] at e1
      obtain ⟨n1, n2, n3, n4, n5, n6, n7, n8, n9, n10, n11, n12, n13, n14, n15⟩ := fd
      simp only [SupD.val, Option.some.injEq, Prod.mk.injEq] at e1
      obtain ⟨q1, q2, q3, q4, q5, q6, q7, q8⟩ := e1
      dsimp only at hb
      split at hb
      · rename_i c y cc
        obtain ⟨h1, h2⟩ := He.ba hb
        obtain ⟨h2, h3⟩ := He.ba h2
        have qy : y = "__class__" := by simpa using q7.symm
        subst q1 q2 q3 q4 q5 q6 q8 qy
        refine ⟨_, ⟨oc, od, n10, n11, n14, cc, c, osl, rfl, lk, h1, ?_, ?_⟩, hk⟩
        · unfold cellB at h2
          cases l2 : K.lookup cc with
          | none => rw [l2] at h2; cases h2
          | some o2 =>
            obtain ⟨v1, v2, v3, v4⟩ := o2
            rw [l2] at h2
            split at h2
            · rename_i a1 a2 D a3 heq
              cases heq
              exact ⟨_, _, _, by rw [of_decide_eq_true h2]⟩
            · cases h2
        · unfold fileB at h3
          cases l2 : K.lookup c with
          | none => rw [l2] at h3; cases h3
          | some o2 =>
            obtain ⟨v1, v2, v3, v4⟩ := o2
            rw [l2] at h3
            split at h3
            · rename_i a1 a2 vs a3 heq
              cases heq
              split at h3
              · rename_i f t hv
                exact ⟨_, _, _, _, f, t, rfl, hv, h3⟩
              · cases h3
            · cases h3
      · cases hb
    | _ => cases hb
/-- the class -/
def oexB (K : PySem.W.Frag) (C : Addr) : Bool := match K.lookup C with
  | some ⟨.type "type", _, .cls cd, sl⟩ => (match cd.mro, sl with
    | .ref C' :: bm, ⟨[_, _, _, _, some (.builtin n), _]⟩ => decide (C' = C) && (n == "ValueError.__new__" && (cd.hasDict && (!cd.hasDel && PySem.HandSPX.refsVE bm)))
    | _, _ => false)
  | _ => false
theorem oexB_ok {K : PySem.W.Frag} {C : Addr} (h : oexB K C = true) : ∃ nm q N bs bm sn sub ab col dd k0 k1 k2 k3 k5, K.lookup C = some (excClassObj nm q C N bs bm true sn sub ab col dd k0 k1 k2 k3 k5 "ValueError.__new__") ∧ PySem.HandSPX.refsVE bm = true := by
  unfold oexB at h
  split at h
  · rename_i dd cd sl heq
    split at h
    · rename_i C' bm a0 a1 a2 a3 n a5 hm
      obtain ⟨h1, h⟩ := He.ba h
      obtain ⟨h2, h⟩ := He.ba h
      obtain ⟨h3, h⟩ := He.ba h
      obtain ⟨h4, h5⟩ := He.ba h
      obtain ⟨z1, z2, z3, z4, z5, z6, z7, z8, z9, z10, z11⟩ := cd
      dsimp only at hm h3 h4
      have e1 := of_decide_eq_true h1
      have e2 : n = "ValueError.__new__" := by simpa using h2
      have e4 : z11 = false := by simpa using h4
      subst e1 e2 e4 hm
      subst h3
      exact ⟨_, _, _, _, _, _, _, _, _, _, _, _, _, _, _, heq, h5⟩
    · cases h
  · cases h
def oex2 (K : PySem.W.Frag) (C : Addr) : Bool := oexB K C && (He.eqO (PySem.W.findIn K (.ref C) "__setattr__") (some (some (.builtin "object.__setattr__"))) && (decide (PySem.W.subIn K (.ref C) (.type "BaseException") = some true) && (decide (PySem.W.typeIn K (.ref C) = some (.type "type")) && PySem.W.keepIn K (.ref C))))
theorem oex2_ok {K : PySem.W.Frag} {C : Addr} (h : oex2 K C = true) : OexC K C := by
  obtain ⟨h1, h⟩ := He.ba h
  obtain ⟨h2, h⟩ := He.ba h
  obtain ⟨h3, h⟩ := He.ba h
  obtain ⟨h4, h5⟩ := He.ba h
  exact ⟨oexB_ok h1, He.eqO_ok h2, of_decide_eq_true h3, of_decide_eq_true h4, h5⟩
def supcB (K : PySem.W.Frag) (C : Addr) : Bool := oex2 K C && (He.eqO (PySem.W.nsIn K cStatics "thirdparty.any") (some none) && (He.eqO (PySem.W.nsIn K mainGlobals "super") (some none) && (decide (PySem.W.mroIn K C (.ref C) = some true) && (He.eqO (PySem.W.ks_superIn K C C "__init__") (some (some (.builtin "ValueError.__init__"))) &&
  decide (PySem.W.subIn K (.ref C) (.type "ValueError") = some true)))))
theorem supcB_ok {P : Program} {K : PySem.W.Frag} {C : Addr} (h : supcB K C = true) (hP : (P.main.scope.names.lookup ("super" : Str)).isSome = false) : SupC P K C := by
  obtain ⟨h1, h⟩ := He.ba h
  obtain ⟨h2, h⟩ := He.ba h
  obtain ⟨h3, h⟩ := He.ba h
  obtain ⟨h4, h⟩ := He.ba h
  obtain ⟨h5, h6⟩ := He.ba h
  exact ⟨oex2_ok h1, He.eqO_ok h2, He.eqO_ok h3, hP, of_decide_eq_true h4, He.eqO_ok h5, of_decide_eq_true h6⟩
def excB (K : PySem.W.Frag) (D : Addr) : Bool := xfB K D && (He.eqO (PySem.W.findIn K (.ref D) "__class__") (some (some (.builtin "object.__class__"))) && (He.eqO (PySem.W.specialIn K (.builtin "object.__class__") "__get__") (some (some (.builtin "getset_descriptor.__get__"))) &&
  (decide (PySem.W.takesIn K (.builtin "object.__class__") = some true) && decide (PySem.W.mroIn K D (.type "object") = some true))))
theorem excB_ok {K : PySem.W.Frag} {D : Addr} (h : excB K D = true) : L2.ExcC K D := by
  obtain ⟨h1, h⟩ := He.ba h
  obtain ⟨h2, h⟩ := He.ba h
  obtain ⟨h3, h⟩ := He.ba h
  obtain ⟨h4, h5⟩ := He.ba h
  have x := xfB_ok h1
  exact ⟨x.ga, x.gg, x.exC, x.hdC, He.eqO_ok h2, He.eqO_ok h3, of_decide_eq_true h4, of_decide_eq_true h5⟩
/-- all that is asked of such a class: its fields fs are in no class's way -/
def errB (K : PySem.W.Frag) (x qual file : Str) (fs : List Str) : Bool := supB K (clsA K x) (iniA K x) qual file && (PySem.W.keepIn K (.ref (iniA K x)) && (supcB K (clsA K x) && (excB K (clsA K x) && (He.eqO (PySem.W.findIn K (.ref (clsA K x)) "__init__") (some (some (.ref (iniA K x)))) &&
  (decide (PySem.W.typeIn K (.ref (iniA K x)) = some (.type "function")) && fs.all fun f => He.eqO (PySem.W.findIn K (.ref (clsA K x)) f) (some none))))))
structure ErrOk (P : Program) (K : PySem.W.Frag) (d : SupD) (fs : List Str) : Prop where
  f : ∃ fd, SupF P K (clsA K d.cls) d.qual d.params d.body d.scope (iniA K d.cls) fd
  c : SupC P K (clsA K d.cls)
  e : L2.ExcC K (clsA K d.cls)
  x : XfC K (clsA K d.cls)
  i : PySem.W.findIn K (.ref (clsA K d.cls)) "__init__" = some (some (.ref (iniA K d.cls)))
  t : PySem.W.typeIn K (.ref (iniA K d.cls)) = some (.type "function")
  a : ∀ f ∈ fs, PySem.W.findIn K (.ref (clsA K d.cls)) f = some none
theorem err_ok {P : Program} {K : PySem.W.Frag} {d : SupD} {fs : List Str} (hf : fnN K d.at_ = d.val) (h : errB K d.cls d.qual P.main.file fs = true) (hP : (P.main.scope.names.lookup ("super" : Str)).isSome = false) : ErrOk P K d fs := by
  obtain ⟨h1, h⟩ := He.ba h
  obtain ⟨h2, h⟩ := He.ba h
  obtain ⟨h3, h⟩ := He.ba h
  obtain ⟨h4, h⟩ := He.ba h
  obtain ⟨h5, h⟩ := He.ba h
  obtain ⟨h6, h7⟩ := He.ba h
  exact ⟨supF_ok hf h1 h2, supcB_ok h3 hP, excB_ok h4, xfB_ok (He.ba h4).1, He.eqO_ok h5, of_decide_eq_true h6, fun f m => He.eqO_ok (List.all_eq_true.mp h7 f m)⟩
/-- what isinstance says of an instance of C -/
def kitB (K : PySem.W.Frag) (C : Addr) (l : List (Value × Bool)) : Bool := l.all fun p => decide (PySem.W.kitOne K (.ref C) p.1 = some p.2)
theorem kitB_ok {K : PySem.W.Frag} {C : Addr} {l : List (Value × Bool)} (h : kitB K C l = true) {v : Value} {b : Bool} (m : (v, b) ∈ l) : PySem.W.kitOne K (.ref C) v = some b := of_decide_eq_true (List.all_eq_true.mp h _ m)
/-! ### the hook -/
section
open PySem.W
abbrev AlZ : Type := He.AlD × Bool × List FnN
def obsZ (fa : List He.Fa) (fn : List He.DefD) (sq : List SupD) (ex : PySem.W.Frag → Bool) (K : PySem.W.Frag) : AlZ := (He.obsD fa fn K, ex K, sq.map fun d => fnN K d.at_)
def obsZG (n : Nat) (fa : List He.Fa) (fn : List He.DefD) (sq : List SupD) (ex : PySem.W.Frag → Bool) (g : Addr → Option Obj) : AlZ := obsZ fa fn sq ex (He.frG g (cStatics :: He.asD g n))
def hookZ (n : Nat) (fa : List He.Fa) (fn : List He.DefD) (sq : List SupD) (ex : PySem.W.Frag → Bool) : PySem.W.Hook where
  α := AlZ
  obs := fun s => obsZG n fa fn sq ex s.heap.get?
  val := fun _ => (He.valD fn, true, sq.map SupD.val)
  says := fun _ h => ∃ K : PySem.W.Frag, K.In h ∧ He.SaysD fa fn K ∧ ex K = true ∧ ∀ d ∈ sq, fnN K d.at_ = d.val
  of := fun _ s e => ⟨_, He.frG_in, congrArg (fun z : AlZ => z.1) e, congrArg (fun z : AlZ => z.2.1) e, fun d hd => List.map_inj_left.mp (congrArg (fun z : AlZ => z.2.2) e) d hd⟩
  keeps := fun _ _ _ ⟨K, hK, c⟩ k => ⟨K, PySem.W.Frag.In.keeps hK k, c⟩
theorem obsZ_eq {n : Nat} {fa : List He.Fa} {fn : List He.DefD} {sq : List SupD} {ex : PySem.W.Frag → Bool} {g : Addr → Option Obj} {s : Shared} (h : ∀ a, g a = s.heap.get? a) : obsZG n fa fn sq ex g = (hookZ n fa fn sq ex).obs s := by
  have e : g = s.heap.get? := funext h
  rw [e] <;> rfl
end
end Lx

set_option Elab.async false
set_option linter.all false
set_option maxRecDepth 100000
set_option maxHeartbeats 0
namespace Km
open PySem PySem.Spec PyProof.Rows L2 Lx
/-- the powers by which a number is halved -/
@[irreducible] def pw (i : Nat) : Nat := 10 ^ (64 * 2 ^ i)
def top (i : Nat) : Stmt := PySem.Challenge.pw_buriedsure_k76_ratios_beside_pairs.main.body.getD i (.Pass ⟨0, 0, 0, 0⟩)
abbrev s_decimal : Stmt := top 4
abbrev N_decimal : List Str := ["number"]
theorem sc_decimal : FnScope N_decimal ["number"] (defScope s_decimal) := ⟨rfl, rfl, rfl, by decide +kernel, rfl, by decide +kernel, by decide +kernel⟩
abbrev s_digits_of : Stmt := top 5
abbrev N_digits_of : List Str := ["number", "powers", "parts", "power", "part", "half"]
theorem sc_digits_of : FnScope N_digits_of ["number"] (defScope s_digits_of) := ⟨rfl, rfl, rfl, by decide +kernel, rfl, by decide +kernel, by decide +kernel⟩
abbrev s_ratio_text : Stmt := top 23
abbrev N_ratio_text : List Str := ["top", "bottom"]
theorem sc_ratio_text : FnScope N_ratio_text ["top", "bottom"] (defScope s_ratio_text) := ⟨rfl, rfl, rfl, by decide +kernel, rfl, by decide +kernel, by decide +kernel⟩
abbrev s_Ratio__init : Stmt := inClass (top 24) 0
abbrev N_Ratio__init : List Str := ["self", "top", "bottom", "common"]
theorem sc_Ratio__init : FnScope N_Ratio__init ["self", "top", "bottom"] (defScope s_Ratio__init) := ⟨rfl, rfl, rfl, by decide +kernel, rfl, by decide +kernel, by decide +kernel⟩
abbrev s_Ratio__add : Stmt := inClass (top 24) 1
abbrev N_Ratio__add : List Str := ["self", "other", "top", "bottom"]
theorem sc_Ratio__add : FnScope N_Ratio__add ["self", "other"] (defScope s_Ratio__add) := ⟨rfl, rfl, rfl, by decide +kernel, rfl, by decide +kernel, by decide +kernel⟩
abbrev s_Ratio__sub : Stmt := inClass (top 24) 2
abbrev N_Ratio__sub : List Str := ["self", "other", "top", "bottom"]
theorem sc_Ratio__sub : FnScope N_Ratio__sub ["self", "other"] (defScope s_Ratio__sub) := ⟨rfl, rfl, rfl, by decide +kernel, rfl, by decide +kernel, by decide +kernel⟩
abbrev s_Ratio__mul : Stmt := inClass (top 24) 3
abbrev N_Ratio__mul : List Str := ["self", "other", "top", "bottom"]
theorem sc_Ratio__mul : FnScope N_Ratio__mul ["self", "other"] (defScope s_Ratio__mul) := ⟨rfl, rfl, rfl, by decide +kernel, rfl, by decide +kernel, by decide +kernel⟩
abbrev s_Ratio_is_less : Stmt := inClass (top 24) 4
abbrev N_Ratio_is_less : List Str := ["self", "other", "top", "bottom"]
theorem sc_Ratio_is_less : FnScope N_Ratio_is_less ["self", "other"] (defScope s_Ratio_is_less) := ⟨rfl, rfl, rfl, by decide +kernel, rfl, by decide +kernel, by decide +kernel⟩
abbrev s_Ratio__eq : Stmt := inClass (top 24) 5
abbrev N_Ratio__eq : List Str := ["self", "other"]
theorem sc_Ratio__eq : FnScope N_Ratio__eq ["self", "other"] (defScope s_Ratio__eq) := ⟨rfl, rfl, rfl, by decide +kernel, rfl, by decide +kernel, by decide +kernel⟩
abbrev s_parts_of : Stmt := top 25
abbrev N_parts_of : List Str := ["worth"]
theorem sc_parts_of : FnScope N_parts_of ["worth"] (defScope s_parts_of) := ⟨rfl, rfl, rfl, by decide +kernel, rfl, by decide +kernel, by decide +kernel⟩
abbrev s_law_bag : Stmt := top 27
abbrev N_law_bag : List Str := ["script", "mix", "cell"]
theorem sc_law_bag : FnScope N_law_bag ["script"] (defScope s_law_bag) := ⟨rfl, rfl, rfl, by decide +kernel, rfl, by decide +kernel, by decide +kernel⟩
abbrev s_law_draw : Stmt := top 28
abbrev N_law_draw : List Str := ["bag", "limit", "mix", "cell", "digit"]
theorem sc_law_draw : FnScope N_law_draw ["bag", "limit"] (defScope s_law_draw) := ⟨rfl, rfl, rfl, by decide +kernel, rfl, by decide +kernel, by decide +kernel⟩
abbrev s_law_of : Stmt := top 29
abbrev N_law_of : List Str := ["bag", "menu"]
theorem sc_law_of : FnScope N_law_of ["bag", "menu"] (defScope s_law_of) := ⟨rfl, rfl, rfl, by decide +kernel, rfl, by decide +kernel, by decide +kernel⟩
abbrev s_law_like : Stmt := top 30
abbrev N_law_like : List Str := ["told", "due", "a", "b"]
theorem sc_law_like : FnScope N_law_like ["told", "due"] (defScope s_law_like) := ⟨rfl, rfl, rfl, by decide +kernel, rfl, by decide +kernel, by decide +kernel⟩
abbrev s_law_classes : Stmt := top 31
abbrev N_law_classes : List Str := ["e", "flags", "words", "word", "flag"]
theorem sc_law_classes : FnScope N_law_classes ["e"] (defScope s_law_classes) := ⟨rfl, rfl, rfl, by decide +kernel, rfl, by decide +kernel, by decide +kernel⟩
abbrev s_law_error : Stmt := top 32
abbrev N_law_error : List Str := ["label", "value", "above"]
theorem sc_law_error : FnScope N_law_error ["label", "value"] (defScope s_law_error) := ⟨rfl, rfl, rfl, by decide +kernel, rfl, by decide +kernel, by decide +kernel⟩
abbrev s_law_lowest : Stmt := top 33
abbrev N_law_lowest : List Str := ["up", "down", "a", "b", "lap", "rest"]
theorem sc_law_lowest : FnScope N_law_lowest ["up", "down"] (defScope s_law_lowest) := ⟨rfl, rfl, rfl, by decide +kernel, rfl, by decide +kernel, by decide +kernel⟩
abbrev s_law_is_ratio : Stmt := top 34
abbrev N_law_is_ratio : List Str := ["told", "due", "text"]
theorem sc_law_is_ratio : FnScope N_law_is_ratio ["told", "due"] (defScope s_law_is_ratio) := ⟨rfl, rfl, rfl, by decide +kernel, rfl, by decide +kernel, by decide +kernel⟩
abbrev s_law_number : Stmt := top 35
abbrev N_law_number : List Str := ["bag", "size", "number"]
theorem sc_law_number : FnScope N_law_number ["bag"] (defScope s_law_number) := ⟨rfl, rfl, rfl, by decide +kernel, rfl, by decide +kernel, by decide +kernel⟩
abbrev s_law_pair : Stmt := top 36
abbrev N_law_pair : List Str := ["bag", "up", "down", "common"]
theorem sc_law_pair : FnScope N_law_pair ["bag"] (defScope s_law_pair) := ⟨rfl, rfl, rfl, by decide +kernel, rfl, by decide +kernel, by decide +kernel⟩
abbrev s_law_ask : Stmt := top 37
abbrev N_law_ask : List Str := ["up", "down", "e"]
theorem sc_law_ask : FnScope N_law_ask ["up", "down"] (defScope s_law_ask) := ⟨rfl, rfl, rfl, by decide +kernel, rfl, by decide +kernel, by decide +kernel⟩
abbrev s_law_pairs_right : Stmt := top 38
abbrev N_law_pairs_right : List Str := ["one", "other", "a", "b"]
theorem sc_law_pairs_right : FnScope N_law_pairs_right ["one", "other", "a", "b"] (defScope s_law_pairs_right) := ⟨rfl, rfl, rfl, by decide +kernel, rfl, by decide +kernel, by decide +kernel⟩
abbrev s_law_numbers_right : Stmt := top 39
abbrev N_law_numbers_right : List Str := ["one", "a", "number"]
theorem sc_law_numbers_right : FnScope N_law_numbers_right ["one", "a", "number"] (defScope s_law_numbers_right) := ⟨rfl, rfl, rfl, by decide +kernel, rfl, by decide +kernel, by decide +kernel⟩
abbrev s_law : Stmt := top 40
abbrev N_law : List Str := ["script", "bag", "made", "lap", "one", "a", "shift", "near", "b", "up", "down", "due", "told", "times", "other"]
theorem sc_law : FnScope N_law ["script"] (defScope s_law) := ⟨rfl, rfl, rfl, by decide +kernel, rfl, by decide +kernel, by decide +kernel⟩
def D_decimal : He.DefD := ⟨("decimal", none), "decimal", "decimal", defArgs s_decimal, defBody s_decimal, defScope s_decimal, [], []⟩
def D_digits_of : He.DefD := ⟨("digits_of", none), "digits_of", "digits_of", defArgs s_digits_of, defBody s_digits_of, defScope s_digits_of, [], []⟩
def D_ratio_text : He.DefD := ⟨("ratio_text", none), "ratio_text", "ratio_text", defArgs s_ratio_text, defBody s_ratio_text, defScope s_ratio_text, [], []⟩
def D_Ratio__init : He.DefD := ⟨("Ratio", some "__init__"), "__init__", "Ratio.__init__", defArgs s_Ratio__init, defBody s_Ratio__init, defScope s_Ratio__init, [.int 1], []⟩
def D_Ratio__add : He.DefD := ⟨("Ratio", some "__add__"), "__add__", "Ratio.__add__", defArgs s_Ratio__add, defBody s_Ratio__add, defScope s_Ratio__add, [], []⟩
def D_Ratio__sub : He.DefD := ⟨("Ratio", some "__sub__"), "__sub__", "Ratio.__sub__", defArgs s_Ratio__sub, defBody s_Ratio__sub, defScope s_Ratio__sub, [], []⟩
def D_Ratio__mul : He.DefD := ⟨("Ratio", some "__mul__"), "__mul__", "Ratio.__mul__", defArgs s_Ratio__mul, defBody s_Ratio__mul, defScope s_Ratio__mul, [], []⟩
def D_Ratio_is_less : He.DefD := ⟨("Ratio", some "is_less"), "is_less", "Ratio.is_less", defArgs s_Ratio_is_less, defBody s_Ratio_is_less, defScope s_Ratio_is_less, [], []⟩
def D_Ratio__eq : He.DefD := ⟨("Ratio", some "__eq__"), "__eq__", "Ratio.__eq__", defArgs s_Ratio__eq, defBody s_Ratio__eq, defScope s_Ratio__eq, [], []⟩
def D_parts_of : He.DefD := ⟨("parts_of", none), "parts_of", "parts_of", defArgs s_parts_of, defBody s_parts_of, defScope s_parts_of, [], []⟩
def D_law_bag : He.DefD := ⟨("_law_bag", none), "_law_bag", "_law_bag", defArgs s_law_bag, defBody s_law_bag, defScope s_law_bag, [], []⟩
def D_law_draw : He.DefD := ⟨("_law_draw", none), "_law_draw", "_law_draw", defArgs s_law_draw, defBody s_law_draw, defScope s_law_draw, [], []⟩
def D_law_of : He.DefD := ⟨("_law_of", none), "_law_of", "_law_of", defArgs s_law_of, defBody s_law_of, defScope s_law_of, [], []⟩
def D_law_like : He.DefD := ⟨("_law_like", none), "_law_like", "_law_like", defArgs s_law_like, defBody s_law_like, defScope s_law_like, [], []⟩
def D_law_classes : He.DefD := ⟨("_law_classes", none), "_law_classes", "_law_classes", defArgs s_law_classes, defBody s_law_classes, defScope s_law_classes, [], []⟩
def D_law_error : He.DefD := ⟨("_law_error", none), "_law_error", "_law_error", defArgs s_law_error, defBody s_law_error, defScope s_law_error, [], []⟩
def D_law_lowest : He.DefD := ⟨("_law_lowest", none), "_law_lowest", "_law_lowest", defArgs s_law_lowest, defBody s_law_lowest, defScope s_law_lowest, [], []⟩
def D_law_is_ratio : He.DefD := ⟨("_law_is_ratio", none), "_law_is_ratio", "_law_is_ratio", defArgs s_law_is_ratio, defBody s_law_is_ratio, defScope s_law_is_ratio, [], []⟩
def D_law_number : He.DefD := ⟨("_law_number", none), "_law_number", "_law_number", defArgs s_law_number, defBody s_law_number, defScope s_law_number, [], []⟩
def D_law_pair : He.DefD := ⟨("_law_pair", none), "_law_pair", "_law_pair", defArgs s_law_pair, defBody s_law_pair, defScope s_law_pair, [], []⟩
def D_law_ask : He.DefD := ⟨("_law_ask", none), "_law_ask", "_law_ask", defArgs s_law_ask, defBody s_law_ask, defScope s_law_ask, [], []⟩
def D_law_pairs_right : He.DefD := ⟨("_law_pairs_right", none), "_law_pairs_right", "_law_pairs_right", defArgs s_law_pairs_right, defBody s_law_pairs_right, defScope s_law_pairs_right, [], []⟩
def D_law_numbers_right : He.DefD := ⟨("_law_numbers_right", none), "_law_numbers_right", "_law_numbers_right", defArgs s_law_numbers_right, defBody s_law_numbers_right, defScope s_law_numbers_right, [], []⟩
def D_law : He.DefD := ⟨("law", none), "law", "law", defArgs s_law, defBody s_law, defScope s_law, [], []⟩
def fn : List He.DefD := ([D_decimal, D_digits_of, D_ratio_text, D_Ratio__init, D_Ratio__add, D_Ratio__sub, D_Ratio__mul, D_Ratio_is_less, D_Ratio__eq, D_parts_of, D_law_bag, D_law_draw, D_law_of, D_law_like, D_law_classes, D_law_error, D_law_lowest, D_law_is_ratio, D_law_number, D_law_pair] : List He.DefD) ++ ([D_law_ask, D_law_pairs_right, D_law_numbers_right, D_law] : List He.DefD)
def fa : List He.Fa := ([.free "len", .free "int", .free "isinstance", .free "list", .free "tuple", .free "dict", .free "bool", .free "str", .free "all", .free "zip", .free "abs", .free "range", .free "divmod", .free "reversed", .free "ValueError", .free "LookupError", .free "RuntimeError", .free "super", .int "DIGITS_OF_A_CHUNK" (64), .int "CHUNK" (((pw 0 : Nat) : Int))] : List He.Fa) ++ ([.glo "BadRota", .glo "BadWorld", .glo "BadTree", .glo "BadPlay", .glo "BadBook", .glo "BadCourse", .glo "BadDie", .glo "BadMill", .glo "BadRoster", .glo "BadScript", .glo "NoTree", .glo "OutOf", .glo "TooMany", .glo "NoSuch", .glo "Ended", .glo "Ratio", .cls "Ratio", .mkr "Ratio", .noat "Ratio" "top", .noat "Ratio" "bottom"] : List He.Fa) ++ ([.noat "Ratio" "text", .glo "decimal", .glo "digits_of", .glo "ratio_text", .meth "Ratio" "__init__", .meth "Ratio" "__add__", .meth "Ratio" "__sub__", .meth "Ratio" "__mul__", .meth "Ratio" "is_less", .meth "Ratio" "__eq__", .glo "parts_of", .glo "_law_bag", .glo "_law_draw", .glo "_law_of", .glo "_law_like", .glo "_law_classes", .glo "_law_error", .glo "_law_lowest", .glo "_law_is_ratio", .glo "_law_number"] : List He.Fa) ++ ([.glo "_law_pair", .glo "_law_ask", .glo "_law_pairs_right", .glo "_law_numbers_right", .glo "law"] : List He.Fa)
abbrev R : PySem.W.OpenRow := PySem.W.OpenLaw.row PySem.Challenge.rw_buriedsure_k76_ratios_beside_pairs
/-! further checks of the written part -/
def isSomeSome (o : Option (Option Value)) : Bool := match o with
  | some _ => true
  | none => false
def opB (K : PySem.W.Frag) (nm : Str) (rm : Str) : Bool := He.eqO (PySem.W.findIn K (.ref (He.ga K "Ratio")) rm) (some none) && (isSomeSome (PySem.W.findIn K (.type "int") nm) && isSomeSome (PySem.W.findIn K (.type "int") rm))
def ex1 (K : PySem.W.Frag) : Bool := PySem.W.selfFirst K (He.ga K "Ratio") && (opB K "__add__" "__radd__" && (opB K "__sub__" "__rsub__" && opB K "__mul__" "__rmul__"))
def ex2 (K : PySem.W.Frag) : Bool := decide (PySem.W.subIn K (.type "int") (.ref (He.ga K "Ratio")) = some false) && decide (PySem.W.subIn K (.type "str") (.ref (He.ga K "Ratio")) = some false)
def ex3 (K : PySem.W.Frag) : Bool := He.eqO (PySem.W.findIn K (.ref (He.ga K "Ratio")) "__class__") (some (some (.builtin "object.__class__"))) && (He.eqO (PySem.W.specialIn K (.builtin "object.__class__") "__get__") (some (some (.builtin "getset_descriptor.__get__"))) && (decide (PySem.W.takesIn K (.builtin "object.__class__") = some true) && decide (PySem.W.mroIn K (He.ga K "Ratio") (.type "object") = some true)))
def ex4 (K : PySem.W.Frag) : Bool := decide (PySem.W.kitOne K (.ref (He.ga K "Ratio")) (.ref (He.ga K "Ratio")) = some true) && (decide (PySem.W.kitOne K (.type "int") (.ref (He.ga K "Ratio")) = some false) && decide (PySem.W.kitOne K (.type "str") (.ref (He.ga K "Ratio")) = some false))
def ex5 (K : PySem.W.Frag) : Bool := He.eqO (PySem.W.nsIn K mainGlobals "gcd") (some (some (.builtin "math.gcd")))
abbrev s_OutOf : Stmt := inClass (top 18) 0
def Q_OutOf : SupD := ⟨"OutOf", "OutOf.__init__", defArgs s_OutOf, defBody s_OutOf, defScope s_OutOf⟩
/-- the classes that _law_classes asks about, and what they are for an OutOf -/
def kits (K : PySem.W.Frag) : List (Value × Bool) := [(.type "ValueError", true), (.type "LookupError", false), (.type "RuntimeError", false)] ++ (["BadRota", "BadWorld", "BadTree", "BadPlay", "BadBook", "BadCourse", "BadDie", "BadMill", "BadRoster", "BadScript", "NoTree", "TooMany", "NoSuch", "Ended"] : List Str).map (fun x => (.ref (He.ga K x), false)) ++ [(.ref (He.ga K "OutOf"), true)]
def ex6 (K : PySem.W.Frag) : Bool := errB K "OutOf" "OutOf.__init__" R.prog.main.file ["what"]
def ex7 (K : PySem.W.Frag) : Bool := kitB K (He.ga K "OutOf") (kits K) && decide (PySem.W.exmOne K (.ref (He.ga K "OutOf")) (.ref (He.ga K "OutOf")) = some true)
def ex (K : PySem.W.Frag) : Bool := ex1 K && (ex2 K && (ex3 K && (ex4 K && (ex5 K && (ex6 K && ex7 K)))))
abbrev hk : PySem.W.Hook := hookZ 5 fa fn [Q_OutOf] ex
def ob (s : PySem.W.SharedT) : AlZ := obsZG 5 fa fn [Q_OutOf] ex (HandSHeadRun.getT s)
theorem ob_eq (s : PySem.W.SharedT) : ob s = hk.obs s.abs := obsZ_eq (HandSHeadRun.getT_eq s)
def names : List PySem.Str := (["DIGITS_OF_A_CHUNK", "CHUNK", "decimal", "digits_of", "BadRota", "BadWorld", "BadTree", "BadPlay", "BadBook", "BadCourse", "BadDie", "BadMill", "BadRoster", "BadScript", "NoTree", "OutOf", "TooMany"] : List PySem.Str) ++ (["NoSuch", "Ended", "ratio_text", "Ratio", "parts_of", "_law_bag", "_law_draw", "_law_of", "_law_like", "_law_classes", "_law_error", "_law_lowest", "_law_is_ratio", "_law_number", "_law_pair", "_law_ask", "_law_pairs_right", "_law_numbers_right"] : List PySem.Str)
structure Txt (K : PySem.W.Frag) (mg : Str → Option Value) : Prop where
  ns : ∃ h : Heap, K.In h ∧ h.Ns mainGlobals mg
  c : He.SaysD fa fn K
  e : ex K = true
  q : fnN K Q_OutOf.at_ = Q_OutOf.val
/-- what the exceptions' defs ask of the program -/
structure Pr (P : Program) : Prop where
  file : P.main.file = R.prog.main.file
  sup : (P.main.scope.names.lookup ("super" : Str)).isSome = false
theorem pr_R : Pr R.prog := ⟨rfl, by decide +kernel⟩
section
variable {K : PySem.W.Frag} {mg : Str → Option Value}
theorem Txt.n_len (T : Txt K mg) : mg "len" = none := by
  obtain ⟨h, X, G⟩ := T.ns
  exact He.free_ok X G (T.c.fact 0 (f := .free "len") rfl)
theorem Txt.n_int (T : Txt K mg) : mg "int" = none := by
  obtain ⟨h, X, G⟩ := T.ns
  exact He.free_ok X G (T.c.fact 1 (f := .free "int") rfl)
theorem Txt.n_isinstance (T : Txt K mg) : mg "isinstance" = none := by
  obtain ⟨h, X, G⟩ := T.ns
  exact He.free_ok X G (T.c.fact 2 (f := .free "isinstance") rfl)
theorem Txt.n_list (T : Txt K mg) : mg "list" = none := by
  obtain ⟨h, X, G⟩ := T.ns
  exact He.free_ok X G (T.c.fact 3 (f := .free "list") rfl)
theorem Txt.n_tuple (T : Txt K mg) : mg "tuple" = none := by
  obtain ⟨h, X, G⟩ := T.ns
  exact He.free_ok X G (T.c.fact 4 (f := .free "tuple") rfl)
theorem Txt.n_dict (T : Txt K mg) : mg "dict" = none := by
  obtain ⟨h, X, G⟩ := T.ns
  exact He.free_ok X G (T.c.fact 5 (f := .free "dict") rfl)
theorem Txt.n_bool (T : Txt K mg) : mg "bool" = none := by
  obtain ⟨h, X, G⟩ := T.ns
  exact He.free_ok X G (T.c.fact 6 (f := .free "bool") rfl)
theorem Txt.n_str (T : Txt K mg) : mg "str" = none := by
  obtain ⟨h, X, G⟩ := T.ns
  exact He.free_ok X G (T.c.fact 7 (f := .free "str") rfl)
theorem Txt.n_all (T : Txt K mg) : mg "all" = none := by
  obtain ⟨h, X, G⟩ := T.ns
  exact He.free_ok X G (T.c.fact 8 (f := .free "all") rfl)
theorem Txt.n_zip (T : Txt K mg) : mg "zip" = none := by
  obtain ⟨h, X, G⟩ := T.ns
  exact He.free_ok X G (T.c.fact 9 (f := .free "zip") rfl)
theorem Txt.n_abs (T : Txt K mg) : mg "abs" = none := by
  obtain ⟨h, X, G⟩ := T.ns
  exact He.free_ok X G (T.c.fact 10 (f := .free "abs") rfl)
theorem Txt.n_range (T : Txt K mg) : mg "range" = none := by
  obtain ⟨h, X, G⟩ := T.ns
  exact He.free_ok X G (T.c.fact 11 (f := .free "range") rfl)
theorem Txt.n_divmod (T : Txt K mg) : mg "divmod" = none := by
  obtain ⟨h, X, G⟩ := T.ns
  exact He.free_ok X G (T.c.fact 12 (f := .free "divmod") rfl)
theorem Txt.n_reversed (T : Txt K mg) : mg "reversed" = none := by
  obtain ⟨h, X, G⟩ := T.ns
  exact He.free_ok X G (T.c.fact 13 (f := .free "reversed") rfl)
theorem Txt.n_ValueError (T : Txt K mg) : mg "ValueError" = none := by
  obtain ⟨h, X, G⟩ := T.ns
  exact He.free_ok X G (T.c.fact 14 (f := .free "ValueError") rfl)
theorem Txt.n_LookupError (T : Txt K mg) : mg "LookupError" = none := by
  obtain ⟨h, X, G⟩ := T.ns
  exact He.free_ok X G (T.c.fact 15 (f := .free "LookupError") rfl)
theorem Txt.n_RuntimeError (T : Txt K mg) : mg "RuntimeError" = none := by
  obtain ⟨h, X, G⟩ := T.ns
  exact He.free_ok X G (T.c.fact 16 (f := .free "RuntimeError") rfl)
theorem Txt.n_super (T : Txt K mg) : mg "super" = none := by
  obtain ⟨h, X, G⟩ := T.ns
  exact He.free_ok X G (T.c.fact 17 (f := .free "super") rfl)
theorem Txt.c_DIGITS_OF_A_CHUNK (T : Txt K mg) : ∃ t, mg "DIGITS_OF_A_CHUNK" = some (.int (64) t) := by
  obtain ⟨h, X, G⟩ := T.ns
  exact He.int_ok X G (T.c.fact 18 (f := .int "DIGITS_OF_A_CHUNK" (64)) rfl)
theorem Txt.c_CHUNK (T : Txt K mg) : ∃ t, mg "CHUNK" = some (.int (((pw 0 : Nat) : Int)) t) := by
  obtain ⟨h, X, G⟩ := T.ns
  exact He.int_ok X G (T.c.fact 19 (f := .int "CHUNK" (((pw 0 : Nat) : Int))) rfl)
theorem Txt.m_BadRota (T : Txt K mg) : mg "BadRota" = some (.ref (He.ga K "BadRota")) := by
  obtain ⟨h, X, G⟩ := T.ns
  exact He.glo_ok X G (T.c.fact 20 (f := .glo "BadRota") rfl)
theorem Txt.m_BadWorld (T : Txt K mg) : mg "BadWorld" = some (.ref (He.ga K "BadWorld")) := by
  obtain ⟨h, X, G⟩ := T.ns
  exact He.glo_ok X G (T.c.fact 21 (f := .glo "BadWorld") rfl)
theorem Txt.m_BadTree (T : Txt K mg) : mg "BadTree" = some (.ref (He.ga K "BadTree")) := by
  obtain ⟨h, X, G⟩ := T.ns
  exact He.glo_ok X G (T.c.fact 22 (f := .glo "BadTree") rfl)
theorem Txt.m_BadPlay (T : Txt K mg) : mg "BadPlay" = some (.ref (He.ga K "BadPlay")) := by
  obtain ⟨h, X, G⟩ := T.ns
  exact He.glo_ok X G (T.c.fact 23 (f := .glo "BadPlay") rfl)
theorem Txt.m_BadBook (T : Txt K mg) : mg "BadBook" = some (.ref (He.ga K "BadBook")) := by
  obtain ⟨h, X, G⟩ := T.ns
  exact He.glo_ok X G (T.c.fact 24 (f := .glo "BadBook") rfl)
theorem Txt.m_BadCourse (T : Txt K mg) : mg "BadCourse" = some (.ref (He.ga K "BadCourse")) := by
  obtain ⟨h, X, G⟩ := T.ns
  exact He.glo_ok X G (T.c.fact 25 (f := .glo "BadCourse") rfl)
theorem Txt.m_BadDie (T : Txt K mg) : mg "BadDie" = some (.ref (He.ga K "BadDie")) := by
  obtain ⟨h, X, G⟩ := T.ns
  exact He.glo_ok X G (T.c.fact 26 (f := .glo "BadDie") rfl)
theorem Txt.m_BadMill (T : Txt K mg) : mg "BadMill" = some (.ref (He.ga K "BadMill")) := by
  obtain ⟨h, X, G⟩ := T.ns
  exact He.glo_ok X G (T.c.fact 27 (f := .glo "BadMill") rfl)
theorem Txt.m_BadRoster (T : Txt K mg) : mg "BadRoster" = some (.ref (He.ga K "BadRoster")) := by
  obtain ⟨h, X, G⟩ := T.ns
  exact He.glo_ok X G (T.c.fact 28 (f := .glo "BadRoster") rfl)
theorem Txt.m_BadScript (T : Txt K mg) : mg "BadScript" = some (.ref (He.ga K "BadScript")) := by
  obtain ⟨h, X, G⟩ := T.ns
  exact He.glo_ok X G (T.c.fact 29 (f := .glo "BadScript") rfl)
theorem Txt.m_NoTree (T : Txt K mg) : mg "NoTree" = some (.ref (He.ga K "NoTree")) := by
  obtain ⟨h, X, G⟩ := T.ns
  exact He.glo_ok X G (T.c.fact 30 (f := .glo "NoTree") rfl)
theorem Txt.m_OutOf (T : Txt K mg) : mg "OutOf" = some (.ref (He.ga K "OutOf")) := by
  obtain ⟨h, X, G⟩ := T.ns
  exact He.glo_ok X G (T.c.fact 31 (f := .glo "OutOf") rfl)
theorem Txt.m_TooMany (T : Txt K mg) : mg "TooMany" = some (.ref (He.ga K "TooMany")) := by
  obtain ⟨h, X, G⟩ := T.ns
  exact He.glo_ok X G (T.c.fact 32 (f := .glo "TooMany") rfl)
theorem Txt.m_NoSuch (T : Txt K mg) : mg "NoSuch" = some (.ref (He.ga K "NoSuch")) := by
  obtain ⟨h, X, G⟩ := T.ns
  exact He.glo_ok X G (T.c.fact 33 (f := .glo "NoSuch") rfl)
theorem Txt.m_Ended (T : Txt K mg) : mg "Ended" = some (.ref (He.ga K "Ended")) := by
  obtain ⟨h, X, G⟩ := T.ns
  exact He.glo_ok X G (T.c.fact 34 (f := .glo "Ended") rfl)
theorem Txt.m_Ratio (T : Txt K mg) : mg "Ratio" = some (.ref (He.ga K "Ratio")) := by
  obtain ⟨h, X, G⟩ := T.ns
  exact He.glo_ok X G (T.c.fact 35 (f := .glo "Ratio") rfl)
theorem Txt.cl_Ratio (T : Txt K mg) : Cls K (He.ga K "Ratio") := He.cls_ok (T.c.fact 36 (f := .cls "Ratio") rfl)
theorem Txt.mk_Ratio (T : Txt K mg) : Mk K (He.ga K "Ratio") (He.ma K (He.ga K "Ratio") "__init__") := He.mkr_ok (T.c.fact 37 (f := .mkr "Ratio") rfl)
theorem Txt.na_Ratio_top (T : Txt K mg) : NoAttr K (He.ga K "Ratio") "top" := He.noat_ok (T.c.fact 38 (f := .noat "Ratio" "top") rfl)
theorem Txt.na_Ratio_bottom (T : Txt K mg) : NoAttr K (He.ga K "Ratio") "bottom" := He.noat_ok (T.c.fact 39 (f := .noat "Ratio" "bottom") rfl)
theorem Txt.na_Ratio_text (T : Txt K mg) : NoAttr K (He.ga K "Ratio") "text" := He.noat_ok (T.c.fact 40 (f := .noat "Ratio" "text") rfl)
theorem Txt.d_decimal (T : Txt K mg) : FunD K D_decimal.name D_decimal.qual D_decimal.params D_decimal.body D_decimal.scope (D_decimal.dvs K) (D_decimal.kws K) (He.ga K "decimal") (fdAt K D_decimal) := fdAt_ok (T.c.def_ 0 (d := D_decimal) rfl)
theorem Txt.k_decimal (T : Txt K mg) : PySem.W.keepIn K (.ref (He.ga K "decimal")) = true := T.d_decimal.kp
theorem Txt.b_decimal (T : Txt K mg) : L2.Binds K (fdAt K D_decimal) ["number"] [] := FunD.bindsN T.d_decimal fun _ _ _ _ _ _ us hl => match us, hl with | [_], _ => rfl
theorem Txt.m_decimal (T : Txt K mg) : mg "decimal" = some (.ref (He.ga K "decimal")) := by
  obtain ⟨h, X, G⟩ := T.ns
  exact He.glo_ok X G (T.c.fact 41 (f := .glo "decimal") rfl)
theorem Txt.d_digits_of (T : Txt K mg) : FunD K D_digits_of.name D_digits_of.qual D_digits_of.params D_digits_of.body D_digits_of.scope (D_digits_of.dvs K) (D_digits_of.kws K) (He.ga K "digits_of") (fdAt K D_digits_of) := fdAt_ok (T.c.def_ 1 (d := D_digits_of) rfl)
theorem Txt.k_digits_of (T : Txt K mg) : PySem.W.keepIn K (.ref (He.ga K "digits_of")) = true := T.d_digits_of.kp
theorem Txt.b_digits_of (T : Txt K mg) : L2.Binds K (fdAt K D_digits_of) ["number"] [] := FunD.bindsN T.d_digits_of fun _ _ _ _ _ _ us hl => match us, hl with | [_], _ => rfl
theorem Txt.m_digits_of (T : Txt K mg) : mg "digits_of" = some (.ref (He.ga K "digits_of")) := by
  obtain ⟨h, X, G⟩ := T.ns
  exact He.glo_ok X G (T.c.fact 42 (f := .glo "digits_of") rfl)
theorem Txt.d_ratio_text (T : Txt K mg) : FunD K D_ratio_text.name D_ratio_text.qual D_ratio_text.params D_ratio_text.body D_ratio_text.scope (D_ratio_text.dvs K) (D_ratio_text.kws K) (He.ga K "ratio_text") (fdAt K D_ratio_text) := fdAt_ok (T.c.def_ 2 (d := D_ratio_text) rfl)
theorem Txt.k_ratio_text (T : Txt K mg) : PySem.W.keepIn K (.ref (He.ga K "ratio_text")) = true := T.d_ratio_text.kp
theorem Txt.b_ratio_text (T : Txt K mg) : L2.Binds K (fdAt K D_ratio_text) ["top", "bottom"] [] := FunD.bindsN T.d_ratio_text fun _ _ _ _ _ _ us hl => match us, hl with | [_, _], _ => rfl
theorem Txt.m_ratio_text (T : Txt K mg) : mg "ratio_text" = some (.ref (He.ga K "ratio_text")) := by
  obtain ⟨h, X, G⟩ := T.ns
  exact He.glo_ok X G (T.c.fact 43 (f := .glo "ratio_text") rfl)
theorem Txt.d_Ratio__init (T : Txt K mg) : FunD K D_Ratio__init.name D_Ratio__init.qual D_Ratio__init.params D_Ratio__init.body D_Ratio__init.scope (D_Ratio__init.dvs K) (D_Ratio__init.kws K) (He.ma K (He.ga K "Ratio") "__init__") (fdAt K D_Ratio__init) := fdAt_ok (T.c.def_ 3 (d := D_Ratio__init) rfl)
theorem Txt.k_Ratio__init (T : Txt K mg) : PySem.W.keepIn K (.ref (He.ma K (He.ga K "Ratio") "__init__")) = true := T.d_Ratio__init.kp
theorem Txt.me_Ratio__init (T : Txt K mg) : Meth K (He.ga K "Ratio") "__init__" (He.ma K (He.ga K "Ratio") "__init__") := He.meth_ok (T.c.fact 44 (f := .meth "Ratio" "__init__") rfl)
theorem Txt.d_Ratio__add (T : Txt K mg) : FunD K D_Ratio__add.name D_Ratio__add.qual D_Ratio__add.params D_Ratio__add.body D_Ratio__add.scope (D_Ratio__add.dvs K) (D_Ratio__add.kws K) (He.ma K (He.ga K "Ratio") "__add__") (fdAt K D_Ratio__add) := fdAt_ok (T.c.def_ 4 (d := D_Ratio__add) rfl)
theorem Txt.k_Ratio__add (T : Txt K mg) : PySem.W.keepIn K (.ref (He.ma K (He.ga K "Ratio") "__add__")) = true := T.d_Ratio__add.kp
theorem Txt.b_Ratio__add (T : Txt K mg) : L2.Binds K (fdAt K D_Ratio__add) ["self", "other"] [] := FunD.bindsN T.d_Ratio__add fun _ _ _ _ _ _ us hl => match us, hl with | [_, _], _ => rfl
theorem Txt.me_Ratio__add (T : Txt K mg) : Meth K (He.ga K "Ratio") "__add__" (He.ma K (He.ga K "Ratio") "__add__") := He.meth_ok (T.c.fact 45 (f := .meth "Ratio" "__add__") rfl)
theorem Txt.d_Ratio__sub (T : Txt K mg) : FunD K D_Ratio__sub.name D_Ratio__sub.qual D_Ratio__sub.params D_Ratio__sub.body D_Ratio__sub.scope (D_Ratio__sub.dvs K) (D_Ratio__sub.kws K) (He.ma K (He.ga K "Ratio") "__sub__") (fdAt K D_Ratio__sub) := fdAt_ok (T.c.def_ 5 (d := D_Ratio__sub) rfl)
theorem Txt.k_Ratio__sub (T : Txt K mg) : PySem.W.keepIn K (.ref (He.ma K (He.ga K "Ratio") "__sub__")) = true := T.d_Ratio__sub.kp
theorem Txt.b_Ratio__sub (T : Txt K mg) : L2.Binds K (fdAt K D_Ratio__sub) ["self", "other"] [] := FunD.bindsN T.d_Ratio__sub fun _ _ _ _ _ _ us hl => match us, hl with | [_, _], _ => rfl
theorem Txt.me_Ratio__sub (T : Txt K mg) : Meth K (He.ga K "Ratio") "__sub__" (He.ma K (He.ga K "Ratio") "__sub__") := He.meth_ok (T.c.fact 46 (f := .meth "Ratio" "__sub__") rfl)
theorem Txt.d_Ratio__mul (T : Txt K mg) : FunD K D_Ratio__mul.name D_Ratio__mul.qual D_Ratio__mul.params D_Ratio__mul.body D_Ratio__mul.scope (D_Ratio__mul.dvs K) (D_Ratio__mul.kws K) (He.ma K (He.ga K "Ratio") "__mul__") (fdAt K D_Ratio__mul) := fdAt_ok (T.c.def_ 6 (d := D_Ratio__mul) rfl)
theorem Txt.k_Ratio__mul (T : Txt K mg) : PySem.W.keepIn K (.ref (He.ma K (He.ga K "Ratio") "__mul__")) = true := T.d_Ratio__mul.kp
theorem Txt.b_Ratio__mul (T : Txt K mg) : L2.Binds K (fdAt K D_Ratio__mul) ["self", "other"] [] := FunD.bindsN T.d_Ratio__mul fun _ _ _ _ _ _ us hl => match us, hl with | [_, _], _ => rfl
theorem Txt.me_Ratio__mul (T : Txt K mg) : Meth K (He.ga K "Ratio") "__mul__" (He.ma K (He.ga K "Ratio") "__mul__") := He.meth_ok (T.c.fact 47 (f := .meth "Ratio" "__mul__") rfl)
theorem Txt.d_Ratio_is_less (T : Txt K mg) : FunD K D_Ratio_is_less.name D_Ratio_is_less.qual D_Ratio_is_less.params D_Ratio_is_less.body D_Ratio_is_less.scope (D_Ratio_is_less.dvs K) (D_Ratio_is_less.kws K) (He.ma K (He.ga K "Ratio") "is_less") (fdAt K D_Ratio_is_less) := fdAt_ok (T.c.def_ 7 (d := D_Ratio_is_less) rfl)
theorem Txt.k_Ratio_is_less (T : Txt K mg) : PySem.W.keepIn K (.ref (He.ma K (He.ga K "Ratio") "is_less")) = true := T.d_Ratio_is_less.kp
theorem Txt.b_Ratio_is_less (T : Txt K mg) : L2.Binds K (fdAt K D_Ratio_is_less) ["self", "other"] [] := FunD.bindsN T.d_Ratio_is_less fun _ _ _ _ _ _ us hl => match us, hl with | [_, _], _ => rfl
theorem Txt.me_Ratio_is_less (T : Txt K mg) : Meth K (He.ga K "Ratio") "is_less" (He.ma K (He.ga K "Ratio") "is_less") := He.meth_ok (T.c.fact 48 (f := .meth "Ratio" "is_less") rfl)
theorem Txt.d_Ratio__eq (T : Txt K mg) : FunD K D_Ratio__eq.name D_Ratio__eq.qual D_Ratio__eq.params D_Ratio__eq.body D_Ratio__eq.scope (D_Ratio__eq.dvs K) (D_Ratio__eq.kws K) (He.ma K (He.ga K "Ratio") "__eq__") (fdAt K D_Ratio__eq) := fdAt_ok (T.c.def_ 8 (d := D_Ratio__eq) rfl)
theorem Txt.k_Ratio__eq (T : Txt K mg) : PySem.W.keepIn K (.ref (He.ma K (He.ga K "Ratio") "__eq__")) = true := T.d_Ratio__eq.kp
theorem Txt.b_Ratio__eq (T : Txt K mg) : L2.Binds K (fdAt K D_Ratio__eq) ["self", "other"] [] := FunD.bindsN T.d_Ratio__eq fun _ _ _ _ _ _ us hl => match us, hl with | [_, _], _ => rfl
theorem Txt.me_Ratio__eq (T : Txt K mg) : Meth K (He.ga K "Ratio") "__eq__" (He.ma K (He.ga K "Ratio") "__eq__") := He.meth_ok (T.c.fact 49 (f := .meth "Ratio" "__eq__") rfl)
theorem Txt.d_parts_of (T : Txt K mg) : FunD K D_parts_of.name D_parts_of.qual D_parts_of.params D_parts_of.body D_parts_of.scope (D_parts_of.dvs K) (D_parts_of.kws K) (He.ga K "parts_of") (fdAt K D_parts_of) := fdAt_ok (T.c.def_ 9 (d := D_parts_of) rfl)
theorem Txt.k_parts_of (T : Txt K mg) : PySem.W.keepIn K (.ref (He.ga K "parts_of")) = true := T.d_parts_of.kp
theorem Txt.b_parts_of (T : Txt K mg) : L2.Binds K (fdAt K D_parts_of) ["worth"] [] := FunD.bindsN T.d_parts_of fun _ _ _ _ _ _ us hl => match us, hl with | [_], _ => rfl
theorem Txt.m_parts_of (T : Txt K mg) : mg "parts_of" = some (.ref (He.ga K "parts_of")) := by
  obtain ⟨h, X, G⟩ := T.ns
  exact He.glo_ok X G (T.c.fact 50 (f := .glo "parts_of") rfl)
theorem Txt.d_law_bag (T : Txt K mg) : FunD K D_law_bag.name D_law_bag.qual D_law_bag.params D_law_bag.body D_law_bag.scope (D_law_bag.dvs K) (D_law_bag.kws K) (He.ga K "_law_bag") (fdAt K D_law_bag) := fdAt_ok (T.c.def_ 10 (d := D_law_bag) rfl)
theorem Txt.k_law_bag (T : Txt K mg) : PySem.W.keepIn K (.ref (He.ga K "_law_bag")) = true := T.d_law_bag.kp
theorem Txt.b_law_bag (T : Txt K mg) : L2.Binds K (fdAt K D_law_bag) ["script"] [] := FunD.bindsN T.d_law_bag fun _ _ _ _ _ _ us hl => match us, hl with | [_], _ => rfl
theorem Txt.m_law_bag (T : Txt K mg) : mg "_law_bag" = some (.ref (He.ga K "_law_bag")) := by
  obtain ⟨h, X, G⟩ := T.ns
  exact He.glo_ok X G (T.c.fact 51 (f := .glo "_law_bag") rfl)
theorem Txt.d_law_draw (T : Txt K mg) : FunD K D_law_draw.name D_law_draw.qual D_law_draw.params D_law_draw.body D_law_draw.scope (D_law_draw.dvs K) (D_law_draw.kws K) (He.ga K "_law_draw") (fdAt K D_law_draw) := fdAt_ok (T.c.def_ 11 (d := D_law_draw) rfl)
theorem Txt.k_law_draw (T : Txt K mg) : PySem.W.keepIn K (.ref (He.ga K "_law_draw")) = true := T.d_law_draw.kp
theorem Txt.b_law_draw (T : Txt K mg) : L2.Binds K (fdAt K D_law_draw) ["bag", "limit"] [] := FunD.bindsN T.d_law_draw fun _ _ _ _ _ _ us hl => match us, hl with | [_, _], _ => rfl
theorem Txt.m_law_draw (T : Txt K mg) : mg "_law_draw" = some (.ref (He.ga K "_law_draw")) := by
  obtain ⟨h, X, G⟩ := T.ns
  exact He.glo_ok X G (T.c.fact 52 (f := .glo "_law_draw") rfl)
theorem Txt.d_law_of (T : Txt K mg) : FunD K D_law_of.name D_law_of.qual D_law_of.params D_law_of.body D_law_of.scope (D_law_of.dvs K) (D_law_of.kws K) (He.ga K "_law_of") (fdAt K D_law_of) := fdAt_ok (T.c.def_ 12 (d := D_law_of) rfl)
theorem Txt.k_law_of (T : Txt K mg) : PySem.W.keepIn K (.ref (He.ga K "_law_of")) = true := T.d_law_of.kp
theorem Txt.b_law_of (T : Txt K mg) : L2.Binds K (fdAt K D_law_of) ["bag", "menu"] [] := FunD.bindsN T.d_law_of fun _ _ _ _ _ _ us hl => match us, hl with | [_, _], _ => rfl
theorem Txt.m_law_of (T : Txt K mg) : mg "_law_of" = some (.ref (He.ga K "_law_of")) := by
  obtain ⟨h, X, G⟩ := T.ns
  exact He.glo_ok X G (T.c.fact 53 (f := .glo "_law_of") rfl)
theorem Txt.d_law_like (T : Txt K mg) : FunD K D_law_like.name D_law_like.qual D_law_like.params D_law_like.body D_law_like.scope (D_law_like.dvs K) (D_law_like.kws K) (He.ga K "_law_like") (fdAt K D_law_like) := fdAt_ok (T.c.def_ 13 (d := D_law_like) rfl)
theorem Txt.k_law_like (T : Txt K mg) : PySem.W.keepIn K (.ref (He.ga K "_law_like")) = true := T.d_law_like.kp
theorem Txt.b_law_like (T : Txt K mg) : L2.Binds K (fdAt K D_law_like) ["told", "due"] [] := FunD.bindsN T.d_law_like fun _ _ _ _ _ _ us hl => match us, hl with | [_, _], _ => rfl
theorem Txt.m_law_like (T : Txt K mg) : mg "_law_like" = some (.ref (He.ga K "_law_like")) := by
  obtain ⟨h, X, G⟩ := T.ns
  exact He.glo_ok X G (T.c.fact 54 (f := .glo "_law_like") rfl)
theorem Txt.d_law_classes (T : Txt K mg) : FunD K D_law_classes.name D_law_classes.qual D_law_classes.params D_law_classes.body D_law_classes.scope (D_law_classes.dvs K) (D_law_classes.kws K) (He.ga K "_law_classes") (fdAt K D_law_classes) := fdAt_ok (T.c.def_ 14 (d := D_law_classes) rfl)
theorem Txt.k_law_classes (T : Txt K mg) : PySem.W.keepIn K (.ref (He.ga K "_law_classes")) = true := T.d_law_classes.kp
theorem Txt.b_law_classes (T : Txt K mg) : L2.Binds K (fdAt K D_law_classes) ["e"] [] := FunD.bindsN T.d_law_classes fun _ _ _ _ _ _ us hl => match us, hl with | [_], _ => rfl
theorem Txt.m_law_classes (T : Txt K mg) : mg "_law_classes" = some (.ref (He.ga K "_law_classes")) := by
  obtain ⟨h, X, G⟩ := T.ns
  exact He.glo_ok X G (T.c.fact 55 (f := .glo "_law_classes") rfl)
theorem Txt.d_law_error (T : Txt K mg) : FunD K D_law_error.name D_law_error.qual D_law_error.params D_law_error.body D_law_error.scope (D_law_error.dvs K) (D_law_error.kws K) (He.ga K "_law_error") (fdAt K D_law_error) := fdAt_ok (T.c.def_ 15 (d := D_law_error) rfl)
theorem Txt.k_law_error (T : Txt K mg) : PySem.W.keepIn K (.ref (He.ga K "_law_error")) = true := T.d_law_error.kp
theorem Txt.b_law_error (T : Txt K mg) : L2.Binds K (fdAt K D_law_error) ["label", "value"] [] := FunD.bindsN T.d_law_error fun _ _ _ _ _ _ us hl => match us, hl with | [_, _], _ => rfl
theorem Txt.m_law_error (T : Txt K mg) : mg "_law_error" = some (.ref (He.ga K "_law_error")) := by
  obtain ⟨h, X, G⟩ := T.ns
  exact He.glo_ok X G (T.c.fact 56 (f := .glo "_law_error") rfl)
theorem Txt.d_law_lowest (T : Txt K mg) : FunD K D_law_lowest.name D_law_lowest.qual D_law_lowest.params D_law_lowest.body D_law_lowest.scope (D_law_lowest.dvs K) (D_law_lowest.kws K) (He.ga K "_law_lowest") (fdAt K D_law_lowest) := fdAt_ok (T.c.def_ 16 (d := D_law_lowest) rfl)
theorem Txt.k_law_lowest (T : Txt K mg) : PySem.W.keepIn K (.ref (He.ga K "_law_lowest")) = true := T.d_law_lowest.kp
theorem Txt.b_law_lowest (T : Txt K mg) : L2.Binds K (fdAt K D_law_lowest) ["up", "down"] [] := FunD.bindsN T.d_law_lowest fun _ _ _ _ _ _ us hl => match us, hl with | [_, _], _ => rfl
theorem Txt.m_law_lowest (T : Txt K mg) : mg "_law_lowest" = some (.ref (He.ga K "_law_lowest")) := by
  obtain ⟨h, X, G⟩ := T.ns
  exact He.glo_ok X G (T.c.fact 57 (f := .glo "_law_lowest") rfl)
theorem Txt.d_law_is_ratio (T : Txt K mg) : FunD K D_law_is_ratio.name D_law_is_ratio.qual D_law_is_ratio.params D_law_is_ratio.body D_law_is_ratio.scope (D_law_is_ratio.dvs K) (D_law_is_ratio.kws K) (He.ga K "_law_is_ratio") (fdAt K D_law_is_ratio) := fdAt_ok (T.c.def_ 17 (d := D_law_is_ratio) rfl)
theorem Txt.k_law_is_ratio (T : Txt K mg) : PySem.W.keepIn K (.ref (He.ga K "_law_is_ratio")) = true := T.d_law_is_ratio.kp
theorem Txt.b_law_is_ratio (T : Txt K mg) : L2.Binds K (fdAt K D_law_is_ratio) ["told", "due"] [] := FunD.bindsN T.d_law_is_ratio fun _ _ _ _ _ _ us hl => match us, hl with | [_, _], _ => rfl
theorem Txt.m_law_is_ratio (T : Txt K mg) : mg "_law_is_ratio" = some (.ref (He.ga K "_law_is_ratio")) := by
  obtain ⟨h, X, G⟩ := T.ns
  exact He.glo_ok X G (T.c.fact 58 (f := .glo "_law_is_ratio") rfl)
theorem Txt.d_law_number (T : Txt K mg) : FunD K D_law_number.name D_law_number.qual D_law_number.params D_law_number.body D_law_number.scope (D_law_number.dvs K) (D_law_number.kws K) (He.ga K "_law_number") (fdAt K D_law_number) := fdAt_ok (T.c.def_ 18 (d := D_law_number) rfl)
theorem Txt.k_law_number (T : Txt K mg) : PySem.W.keepIn K (.ref (He.ga K "_law_number")) = true := T.d_law_number.kp
theorem Txt.b_law_number (T : Txt K mg) : L2.Binds K (fdAt K D_law_number) ["bag"] [] := FunD.bindsN T.d_law_number fun _ _ _ _ _ _ us hl => match us, hl with | [_], _ => rfl
theorem Txt.m_law_number (T : Txt K mg) : mg "_law_number" = some (.ref (He.ga K "_law_number")) := by
  obtain ⟨h, X, G⟩ := T.ns
  exact He.glo_ok X G (T.c.fact 59 (f := .glo "_law_number") rfl)
theorem Txt.d_law_pair (T : Txt K mg) : FunD K D_law_pair.name D_law_pair.qual D_law_pair.params D_law_pair.body D_law_pair.scope (D_law_pair.dvs K) (D_law_pair.kws K) (He.ga K "_law_pair") (fdAt K D_law_pair) := fdAt_ok (T.c.def_ 19 (d := D_law_pair) rfl)
theorem Txt.k_law_pair (T : Txt K mg) : PySem.W.keepIn K (.ref (He.ga K "_law_pair")) = true := T.d_law_pair.kp
theorem Txt.b_law_pair (T : Txt K mg) : L2.Binds K (fdAt K D_law_pair) ["bag"] [] := FunD.bindsN T.d_law_pair fun _ _ _ _ _ _ us hl => match us, hl with | [_], _ => rfl
theorem Txt.m_law_pair (T : Txt K mg) : mg "_law_pair" = some (.ref (He.ga K "_law_pair")) := by
  obtain ⟨h, X, G⟩ := T.ns
  exact He.glo_ok X G (T.c.fact 60 (f := .glo "_law_pair") rfl)
theorem Txt.d_law_ask (T : Txt K mg) : FunD K D_law_ask.name D_law_ask.qual D_law_ask.params D_law_ask.body D_law_ask.scope (D_law_ask.dvs K) (D_law_ask.kws K) (He.ga K "_law_ask") (fdAt K D_law_ask) := fdAt_ok (T.c.def_ 20 (d := D_law_ask) rfl)
theorem Txt.k_law_ask (T : Txt K mg) : PySem.W.keepIn K (.ref (He.ga K "_law_ask")) = true := T.d_law_ask.kp
theorem Txt.b_law_ask (T : Txt K mg) : L2.Binds K (fdAt K D_law_ask) ["up", "down"] [] := FunD.bindsN T.d_law_ask fun _ _ _ _ _ _ us hl => match us, hl with | [_, _], _ => rfl
theorem Txt.m_law_ask (T : Txt K mg) : mg "_law_ask" = some (.ref (He.ga K "_law_ask")) := by
  obtain ⟨h, X, G⟩ := T.ns
  exact He.glo_ok X G (T.c.fact 61 (f := .glo "_law_ask") rfl)
theorem Txt.d_law_pairs_right (T : Txt K mg) : FunD K D_law_pairs_right.name D_law_pairs_right.qual D_law_pairs_right.params D_law_pairs_right.body D_law_pairs_right.scope (D_law_pairs_right.dvs K) (D_law_pairs_right.kws K) (He.ga K "_law_pairs_right") (fdAt K D_law_pairs_right) := fdAt_ok (T.c.def_ 21 (d := D_law_pairs_right) rfl)
theorem Txt.k_law_pairs_right (T : Txt K mg) : PySem.W.keepIn K (.ref (He.ga K "_law_pairs_right")) = true := T.d_law_pairs_right.kp
theorem Txt.b_law_pairs_right (T : Txt K mg) : L2.Binds K (fdAt K D_law_pairs_right) ["one", "other", "a", "b"] [] := FunD.bindsN T.d_law_pairs_right fun _ _ _ _ _ _ us hl => match us, hl with | [_, _, _, _], _ => rfl
theorem Txt.m_law_pairs_right (T : Txt K mg) : mg "_law_pairs_right" = some (.ref (He.ga K "_law_pairs_right")) := by
  obtain ⟨h, X, G⟩ := T.ns
  exact He.glo_ok X G (T.c.fact 62 (f := .glo "_law_pairs_right") rfl)
theorem Txt.d_law_numbers_right (T : Txt K mg) : FunD K D_law_numbers_right.name D_law_numbers_right.qual D_law_numbers_right.params D_law_numbers_right.body D_law_numbers_right.scope (D_law_numbers_right.dvs K) (D_law_numbers_right.kws K) (He.ga K "_law_numbers_right") (fdAt K D_law_numbers_right) := fdAt_ok (T.c.def_ 22 (d := D_law_numbers_right) rfl)
theorem Txt.k_law_numbers_right (T : Txt K mg) : PySem.W.keepIn K (.ref (He.ga K "_law_numbers_right")) = true := T.d_law_numbers_right.kp
theorem Txt.b_law_numbers_right (T : Txt K mg) : L2.Binds K (fdAt K D_law_numbers_right) ["one", "a", "number"] [] := FunD.bindsN T.d_law_numbers_right fun _ _ _ _ _ _ us hl => match us, hl with | [_, _, _], _ => rfl
theorem Txt.m_law_numbers_right (T : Txt K mg) : mg "_law_numbers_right" = some (.ref (He.ga K "_law_numbers_right")) := by
  obtain ⟨h, X, G⟩ := T.ns
  exact He.glo_ok X G (T.c.fact 63 (f := .glo "_law_numbers_right") rfl)
theorem Txt.d_law (T : Txt K mg) : FunD K D_law.name D_law.qual D_law.params D_law.body D_law.scope (D_law.dvs K) (D_law.kws K) (He.ga K "law") (fdAt K D_law) := fdAt_ok (T.c.def_ 23 (d := D_law) rfl)
theorem Txt.k_law (T : Txt K mg) : PySem.W.keepIn K (.ref (He.ga K "law")) = true := T.d_law.kp
theorem Txt.b_law (T : Txt K mg) : L2.Binds K (fdAt K D_law) ["script"] [] := FunD.bindsN T.d_law fun _ _ _ _ _ _ us hl => match us, hl with | [_], _ => rfl
theorem Txt.m_law (T : Txt K mg) : mg "law" = some (.ref (He.ga K "law")) := by
  obtain ⟨h, X, G⟩ := T.ns
  exact He.glo_ok X G (T.c.fact 64 (f := .glo "law") rfl)
theorem Txt.oo {P : Program} (T : Txt K mg) (hP : Pr P) : ErrOk P K Q_OutOf ["what"] := by
  obtain ⟨_, h⟩ := He.ba T.e
  obtain ⟨_, h⟩ := He.ba h
  obtain ⟨_, h⟩ := He.ba h
  obtain ⟨_, h⟩ := He.ba h
  obtain ⟨_, h⟩ := He.ba h
  exact err_ok T.q (by rw [hP.file]; exact (He.ba h).1) hP.sup
theorem Txt.kit (T : Txt K mg) {v : Value} {b : Bool} (m : (v, b) ∈ kits K) : PySem.W.kitOne K (.ref (He.ga K "OutOf")) v = some b := by
  obtain ⟨_, h⟩ := He.ba T.e
  obtain ⟨_, h⟩ := He.ba h
  obtain ⟨_, h⟩ := He.ba h
  obtain ⟨_, h⟩ := He.ba h
  obtain ⟨_, h⟩ := He.ba h
  exact kitB_ok (He.ba (He.ba h).2).1 m
theorem Txt.m_gcd (T : Txt K mg) : mg "gcd" = some (.builtin "math.gcd") := by
  obtain ⟨_, h⟩ := He.ba T.e
  obtain ⟨_, h⟩ := He.ba h
  obtain ⟨_, h⟩ := He.ba h
  obtain ⟨_, h⟩ := He.ba h
  obtain ⟨g, X, G⟩ := T.ns
  exact PySem.W.mg_of X G (He.eqO_ok (He.ba h).1)
theorem Txt.exm (T : Txt K mg) : PySem.W.exmOne K (.ref (He.ga K "OutOf")) (.ref (He.ga K "OutOf")) = some true := by
  obtain ⟨_, h⟩ := He.ba T.e
  obtain ⟨_, h⟩ := He.ba h
  obtain ⟨_, h⟩ := He.ba h
  obtain ⟨_, h⟩ := He.ba h
  obtain ⟨_, h⟩ := He.ba h
  exact of_decide_eq_true (He.ba (He.ba h).2).2
end
end Km

set_option Elab.async false
set_option linter.all false
set_option maxRecDepth 100000
set_option maxHeartbeats 4000000
namespace Km
open PySem PySem.Spec PyProof.Rows L2 Lx Dg TL
/-- a text of a number -/
def nt (n : Int) : Str := Str.ofString (toString n)
theorem str_ext {x y : Str} (h : tl x = tl y) : x = y := by
  cases x with
  | mk a => cases y with
    | mk b => exact congrArg Str.mk (Array.toList_inj.mp h)
theorem tl_nt (n : Nat) : tl (nt (n : Int)) = dg n := tl_num n
theorem nt_neg {n : Int} (h : n < 0) : nt n = ("-" : Str) ++ nt (-n) := by
  unfold nt
  rw [toString_neg h, Int.zero_sub]
  apply str_ext
  rw [tl_append, tl_ofString, tl_ofString, tl_ofString, String.toList_append, List.map_append]
theorem tl_lstrip0 (x : Str) : tl (Txt.lstripChars x ("0" : Str)) = (tl x).dropWhile (· == 48) := by
  unfold Txt.lstripChars
  rw [PyProof.Rows.stripBy_eq]
  have hi : stripHi (("0" : Str).cps.contains) false x (stripLo (("0" : Str).cps.contains) true x) = x.length := rfl
  rw [hi, tl_strSub_end]
  show (tl x).drop ((tl x).takeWhile (("0" : Str).cps.contains)).length = _
  have e : (fun c : Nat => ("0" : Str).cps.contains c) = fun c => c == 48 := by
    funext c
    have : ("0" : Str).cps = #[48] := by decide +kernel
    rw [this]
    by_cases h : c = 48 <;> simp [h]
  rw [show (("0" : Str).cps.contains) = fun c : Nat => c == 48 from e]
  generalize tl x = l
  induction l with
  | nil => rfl
  | cons a l ih =>
    rw [List.takeWhile_cons, List.dropWhile_cons]
    cases a == 48 with
    | true => simpa using ih
    | false => rfl
theorem dg_codes (n : Nat) : ∀ c ∈ dg n, 48 ≤ c := by
  induction n using Nat.strongRecOn with
  | _ n ih =>
    intro c hc
    by_cases h : n < 10
    · rw [dg_small h] at hc
      have := List.mem_singleton.mp hc
      omega
    · rw [dg_step (by omega)] at hc
      rcases List.mem_append.mp hc with h1 | h1
      · exact ih (n / 10) (by omega) c h1
      · have := List.mem_singleton.mp h1
        omega
theorem tl_zfill64 {n : Nat} (h : n < 10 ^ 64) : tl (Txt.zfill (nt (n : Int)) 64) = pad 64 n := by
  rw [pad_dg 64 n (by decide) h]
  have hl : (nt (n : Int)).length = (dg n).length := by
    rw [← tl_nt]
    simp [Str.length]
  unfold Txt.zfill
  by_cases c : (64 : Int) ≤ ((nt (n : Int)).length : Int)
  · rw [if_pos c, tl_nt]
    have : 64 - (dg n).length = 0 := by omega
    rw [this]
    rfl
  · rw [if_neg c]
    unfold zfilled
    have h0 : ∀ c, (nt (n : Int)).cps[0]? = some c → 48 ≤ c := by
      intro c hc
      have : c ∈ tl (nt (n : Int)) := by
        have := List.mem_of_getElem? (l := tl (nt (n : Int))) (i := 0) (by simpa using hc)
        exact this
      rw [tl_nt] at this
      exact dg_codes n c this
    split
    · rename_i q
      have := h0 43 q
      omega
    · rename_i q
      have := h0 45 q
      omega
    unfold Builtin.Str.padded tl
    rw [hl]
    show (Array.replicate ((64 : Int).toNat - (dg n).length) 48 ++ (nt (n : Int)).cps ++ Array.replicate 0 48).toList = _
    simp only [Array.toList_append, Array.toList_replicate, List.replicate_zero, List.append_nil]
    rw [show (nt (n : Int)).cps.toList = dg n from tl_nt n]
    rfl
theorem joinL_nil : ∀ l : List (List Nat), joinL [] l = l.flatten
  | [] => rfl
  | [p] => by simp [joinL]
  | p :: q :: r => by
    show p ++ ([] ++ joinL [] (q :: r)) = _
    rw [joinL_nil (q :: r), List.nil_append, List.flatten_cons, List.flatten_cons, List.flatten_cons]
/-- the parts' texts, joined, the zeros ahead taken off -/
theorem fin_text {n k : Nat} {ps : List Nat} (h0 : 0 < n) (hk : 0 < k) (hn : n < 10 ^ k) (hp : ∀ p ∈ ps, p < 10 ^ 64) (e : ps.flatMap (pad 64) = pad k n) :
    Txt.lstripChars (Txt.join ("" : Str) (ps.map fun (p : Nat) => Txt.zfill (nt (p : Int)) 64)) ("0" : Str) = nt (n : Int) := by
  apply str_ext
  rw [tl_lstrip0, tl_nt, join_eq, tl_join, show tl ("" : Str) = [] by decide +kernel, joinL_nil, List.map_map]
  have : (ps.map (tl ∘ fun (p : Nat) => Txt.zfill (nt (p : Int)) 64)) = ps.map (pad 64) := by
    apply List.map_congr_left
    intro p hp'
    exact tl_zfill64 (hp p hp')
  rw [this]
  show (ps.flatMap (pad 64)).dropWhile _ = _
  rw [e]
  exact pad_drop h0 hk hn
end Km

set_option Elab.async false
set_option linter.all false
/-! lowest terms -/
namespace Lo
/-- the divisor that brings t over b to its lowest terms, the lower part above 0 -/
def gg (t b : Int) : Int := if b < 0 then -((Nat.gcd t.natAbs b.natAbs : Nat) : Int) else ((Nat.gcd t.natAbs b.natAbs : Nat) : Int)
def lowT (t b : Int) : Int := t.fdiv (gg t b)
def lowB (t b : Int) : Int := b.fdiv (gg t b)
theorem gcd_pos {t b : Int} (h : b ≠ 0) : 0 < Nat.gcd t.natAbs b.natAbs := Nat.gcd_pos_of_pos_right _ (by omega)
theorem gg_abs (t b : Int) : (gg t b).natAbs = Nat.gcd t.natAbs b.natAbs := by
  unfold gg
  split <;> simp
theorem gg_ne {t b : Int} (h : b ≠ 0) : gg t b ≠ 0 := by
  have h1 := gcd_pos (t := t) h
  have h2 := gg_abs t b
  omega
theorem gg_t (t b : Int) : gg t b ∣ t := Int.natAbs_dvd_natAbs.mp (by rw [gg_abs]; exact Nat.gcd_dvd_left _ _)
theorem gg_b (t b : Int) : gg t b ∣ b := Int.natAbs_dvd_natAbs.mp (by rw [gg_abs]; exact Nat.gcd_dvd_right _ _)
theorem lowT_mul (t b : Int) : lowT t b * gg t b = t := by
  unfold lowT
  rw [Int.fdiv_eq_ediv_of_dvd (gg_t t b)]
  exact Int.ediv_mul_cancel (gg_t t b)
theorem lowB_mul (t b : Int) : lowB t b * gg t b = b := by
  unfold lowB
  rw [Int.fdiv_eq_ediv_of_dvd (gg_b t b)]
  exact Int.ediv_mul_cancel (gg_b t b)
theorem lowT_le {t b : Int} (h : b ≠ 0) : (lowT t b).natAbs ≤ t.natAbs := by
  have e := congrArg Int.natAbs (lowT_mul t b)
  rw [Int.natAbs_mul, gg_abs] at e
  have := gcd_pos (t := t) h
  exact Nat.le_trans (Nat.le_mul_of_pos_right _ this) (Nat.le_of_eq e)
theorem lowB_le {t b : Int} (h : b ≠ 0) : (lowB t b).natAbs ≤ b.natAbs := by
  have e := congrArg Int.natAbs (lowB_mul t b)
  rw [Int.natAbs_mul, gg_abs] at e
  have := gcd_pos (t := t) h
  exact Nat.le_trans (Nat.le_mul_of_pos_right _ this) (Nat.le_of_eq e)
/-- T / B is t / b in its lowest terms -/
structure Low (t b T B : Int) : Prop where
  pos : 0 < B
  cop : Nat.gcd T.natAbs B.natAbs = 1
  eq : T * b = t * B
theorem low_is {t b : Int} (h : b ≠ 0) : Low t b (lowT t b) (lowB t b) := by
  have e1 := lowT_mul t b
  have e2 := lowB_mul t b
  have hg := gcd_pos (t := t) h
  have ha := gg_abs t b
  refine ⟨?_, ?_, ?_⟩
  · have hs : (b < 0 → gg t b < 0) ∧ (0 < b → 0 < gg t b) := by
      unfold gg
      constructor
      · intro hb
        rw [if_pos hb]
        omega
      · intro hb
        rw [if_neg (by omega)]
        omega
    by_cases hb : b < 0
    · have hn := hs.1 hb
      by_cases hx : 0 < lowB t b
      · exact hx
      · exfalso
        have : 0 ≤ lowB t b * gg t b := Int.mul_nonneg_of_nonpos_of_nonpos (by omega) (by omega)
        omega
    · have hn := hs.2 (by omega)
      by_cases hx : 0 < lowB t b
      · exact hx
      · exfalso
        have : lowB t b * gg t b ≤ 0 := Int.mul_nonpos_of_nonpos_of_nonneg (by omega) (by omega)
        omega
  · have q1 := congrArg Int.natAbs e1
    have q2 := congrArg Int.natAbs e2
    rw [Int.natAbs_mul, ha] at q1 q2
    have q3 : Nat.gcd ((lowT t b).natAbs * Nat.gcd t.natAbs b.natAbs) ((lowB t b).natAbs * Nat.gcd t.natAbs b.natAbs) = Nat.gcd t.natAbs b.natAbs := by rw [q1, q2]
    rw [Nat.gcd_mul_right] at q3
    exact Nat.eq_of_mul_eq_mul_right hg (by rw [q3, Nat.one_mul])
  · calc lowT t b * b = lowT t b * (lowB t b * gg t b) := by rw [e2]
      _ = (lowT t b * gg t b) * lowB t b := by rw [Int.mul_comm (lowB t b), Int.mul_assoc]
      _ = t * lowB t b := by rw [e1]
theorem low_uniq {t b T B T' B' : Int} (hb : b ≠ 0) (x : Low t b T B) (y : Low t b T' B') : T = T' ∧ B = B' := by
  have h0 := x.pos
  have h1 := y.pos
  have e : T * B' = T' * B := by
    refine Int.eq_of_mul_eq_mul_right hb ?_
    calc T * B' * b = (T * b) * B' := by rw [Int.mul_assoc, Int.mul_comm B', ← Int.mul_assoc]
      _ = t * B * B' := by rw [x.eq]
      _ = (t * B') * B := by rw [Int.mul_assoc, Int.mul_comm B, ← Int.mul_assoc]
      _ = T' * b * B := by rw [y.eq]
      _ = T' * B * b := by rw [Int.mul_assoc, Int.mul_comm b, ← Int.mul_assoc]
  have ea := congrArg Int.natAbs e
  rw [Int.natAbs_mul, Int.natAbs_mul] at ea
  have d1 : B.natAbs ∣ B'.natAbs := by
    have c : Nat.Coprime B.natAbs T.natAbs := by unfold Nat.Coprime; rw [Nat.gcd_comm]; exact x.cop
    exact c.dvd_of_dvd_mul_left (by rw [ea]; exact Nat.dvd_mul_left _ _)
  have d2 : B'.natAbs ∣ B.natAbs := by
    have c : Nat.Coprime B'.natAbs T'.natAbs := by unfold Nat.Coprime; rw [Nat.gcd_comm]; exact y.cop
    exact c.dvd_of_dvd_mul_left (by rw [← ea]; exact Nat.dvd_mul_left _ _)
  have eB : B = B' := by
    have := Nat.dvd_antisymm d1 d2
    omega
  refine ⟨?_, eB⟩
  rw [← eB] at e
  exact Int.eq_of_mul_eq_mul_right (by omega) e
theorem low_of {t b T B : Int} (hb : b ≠ 0) (x : Low t b T B) : lowT t b = T ∧ lowB t b = B := low_uniq hb (low_is hb) x
theorem low_mul {t b k : Int} (hb : b ≠ 0) (hk : k ≠ 0) : lowT (t * k) (b * k) = lowT t b ∧ lowB (t * k) (b * k) = lowB t b := by
  have l := low_is (t := t) hb
  refine low_of (Int.mul_ne_zero hb hk) ⟨l.pos, l.cop, ?_⟩
  calc lowT t b * (b * k) = lowT t b * b * k := by rw [Int.mul_assoc]
    _ = t * lowB t b * k := by rw [l.eq]
    _ = t * k * lowB t b := by rw [Int.mul_assoc, Int.mul_comm (lowB t b), ← Int.mul_assoc]
theorem low_one (t : Int) : lowT t 1 = t ∧ lowB t 1 = 1 := low_of (by decide) ⟨by decide, by simp, rfl⟩
theorem low_self {t b T B : Int} (x : Low t b T B) : lowT T B = T ∧ lowB T B = B := low_of (by have := x.pos; omega) ⟨x.pos, x.cop, rfl⟩
/-- t + 1 over b is another -/
theorem low_next {T B : Int} (h : 0 < B) : ¬ (lowT (T + 1) B = T ∧ lowB (T + 1) B = B) := by
  rintro ⟨e1, e2⟩
  have l := (low_is (t := T + 1) (b := B) (by omega)).eq
  rw [e1, e2] at l
  have := Int.eq_of_mul_eq_mul_right (show B ≠ 0 by omega) l
  omega
/-- (n - o) + o is n -/
theorem low_back {a0 a1 n0 n1 : Int} (ha : 0 < a1) (hn : 0 < n1) (hc : Nat.gcd n0.natAbs n1.natAbs = 1) : 
    lowT (lowT (n0 * a1 - a0 * n1) (n1 * a1) * a1 + a0 * lowB (n0 * a1 - a0 * n1) (n1 * a1)) (lowB (n0 * a1 - a0 * n1) (n1 * a1) * a1) = n0 ∧
      lowB (lowT (n0 * a1 - a0 * n1) (n1 * a1) * a1 + a0 * lowB (n0 * a1 - a0 * n1) (n1 * a1)) (lowB (n0 * a1 - a0 * n1) (n1 * a1) * a1) = n1 := by
  have hna : n1 * a1 ≠ 0 := Int.mul_ne_zero (by omega) (by omega)
  have l := low_is (t := n0 * a1 - a0 * n1) hna
  generalize lowT (n0 * a1 - a0 * n1) (n1 * a1) = d0 at *
  generalize lowB (n0 * a1 - a0 * n1) (n1 * a1) = d1 at *
  have hp := l.pos
  refine low_of (Int.mul_ne_zero (by omega) (by omega)) ⟨hn, hc, ?_⟩
  have e := l.eq
  have e1 : d0 * a1 * n1 = d0 * (n1 * a1) := by rw [Int.mul_assoc, Int.mul_comm a1]
  rw [Int.add_mul, e1, e, Int.sub_mul]
  have e2 : a0 * n1 * d1 = a0 * d1 * n1 := by rw [Int.mul_assoc, Int.mul_comm n1, ← Int.mul_assoc]
  have e3 : n0 * a1 * d1 = n0 * (d1 * a1) := by rw [Int.mul_assoc, Int.mul_comm a1]
  rw [e2, e3]
  omega
/-! Euclid's turns -/
structure EI (a0 b0 i a b : Nat) : Prop where
  g : Nat.gcd a b = Nat.gcd a0 b0
  z : i = 0 → a = a0 ∧ b = b0
  s : 1 ≤ i → b < a ∧ a * b * 2 ^ (i - 1) ≤ a0 * b0
theorem EI.start (a0 b0 : Nat) : EI a0 b0 0 a0 b0 := ⟨rfl, fun _ => ⟨rfl, rfl⟩, fun h => absurd h (by decide)⟩
theorem EI.step {a0 b0 i a b : Nat} (h : EI a0 b0 i a b) (hb : b ≠ 0) : EI a0 b0 (i + 1) b (a % b) := by
  have hb' : 0 < b := Nat.pos_of_ne_zero hb
  have hlt := Nat.mod_lt a hb'
  refine ⟨?_, fun z => absurd z (by omega), fun _ => ⟨hlt, ?_⟩⟩
  · rw [← h.g, Nat.gcd_comm, ← Nat.gcd_rec, Nat.gcd_comm]
  · have hm := Nat.mod_le a b
    by_cases h0 : i = 0
    · obtain ⟨rfl, rfl⟩ := h.z h0
      subst h0
      show b * (a % b) * 2 ^ 0 ≤ a * b
      rw [Nat.pow_zero, Nat.mul_one, Nat.mul_comm]
      exact Nat.mul_le_mul_right _ hm
    · obtain ⟨h1, h2⟩ := h.s (by omega)
      obtain ⟨k, rfl⟩ : ∃ k, i = k + 1 := ⟨i - 1, by omega⟩
      have h3 : k + 1 - 1 = k := rfl
      rw [h3] at h2
      show b * (a % b) * 2 ^ (k + 1) ≤ a0 * b0
      refine Nat.le_trans ?_ h2
      have h4 : 2 * (a % b) ≤ a := by
        have e := Nat.div_add_mod a b
        have q : 1 ≤ a / b := (Nat.one_le_div_iff hb').mpr (Nat.le_of_lt h1)
        have : b * 1 ≤ b * (a / b) := Nat.mul_le_mul_left _ q
        omega
      have e : b * (a % b) * 2 ^ (k + 1) = (2 * (a % b)) * b * 2 ^ k := by
        rw [Nat.pow_succ]
        simp only [Nat.mul_comm, Nat.mul_left_comm, Nat.mul_assoc]
      rw [e]
      exact Nat.mul_le_mul_right _ (Nat.mul_le_mul_right _ h4)
theorem EI.stop {a0 b0 n a b : Nat} (h : EI a0 b0 n a b) (hn : 1 ≤ n) (hp : a0 * b0 < 2 ^ (n - 1)) : b = 0 := by
  obtain ⟨h1, h2⟩ := h.s hn
  by_cases hb : b = 0
  · exact hb
  · exfalso
    have : 1 ≤ a * b := Nat.mul_pos (by omega) (by omega)
    have : 1 * 2 ^ (n - 1) ≤ a * b * 2 ^ (n - 1) := Nat.mul_le_mul_right _ this
    omega
theorem EI.done {a0 b0 i a : Nat} (h : EI a0 b0 i a 0) : a = Nat.gcd a0 b0 := by
  have := h.g
  rw [Nat.gcd_zero_right] at this
  exact this
theorem low_sign {t b : Int} : (b < 0 → 0 - t.fdiv ((Nat.gcd t.natAbs b.natAbs : Nat) : Int) = lowT t b ∧ 0 - b.fdiv ((Nat.gcd t.natAbs b.natAbs : Nat) : Int) = lowB t b) ∧ (¬ b < 0 → t.fdiv ((Nat.gcd t.natAbs b.natAbs : Nat) : Int) = lowT t b ∧ b.fdiv ((Nat.gcd t.natAbs b.natAbs : Nat) : Int) = lowB t b) := by
  have d1 : ((Nat.gcd t.natAbs b.natAbs : Nat) : Int) ∣ t := Int.natAbs_dvd_natAbs.mp (by simpa using Nat.gcd_dvd_left _ _)
  have d2 : ((Nat.gcd t.natAbs b.natAbs : Nat) : Int) ∣ b := Int.natAbs_dvd_natAbs.mp (by simpa using Nat.gcd_dvd_right _ _)
  constructor
  · intro hb
    have e : gg t b = -((Nat.gcd t.natAbs b.natAbs : Nat) : Int) := by unfold gg; rw [if_pos hb]
    have z1 := gg_t t b
    have z2 := gg_b t b
    unfold lowT lowB
    rw [Int.fdiv_eq_ediv_of_dvd d1, Int.fdiv_eq_ediv_of_dvd d2, Int.fdiv_eq_ediv_of_dvd z1, Int.fdiv_eq_ediv_of_dvd z2, e, Int.ediv_neg, Int.ediv_neg]
    omega
  · intro hb
    unfold lowT lowB gg
    rw [if_neg hb]
    exact ⟨rfl, rfl⟩
end Lo

set_option Elab.async false
set_option linter.all false
set_option maxRecDepth 100000
set_option maxHeartbeats 4000000
namespace Km
open PySem PySem.Spec PyProof.Rows L2 Lx Dg TL
theorem iteD {p : Prop} [Decidable p] {A B : Prop} (h1 : p → A) (h2 : ¬ p → B) : if decide p = true then A else B := by
  by_cases h : p
  · rw [if_pos (decide_eq_true h)]; exact h1 h
  · rw [if_neg (by simp [h])]; exact h2 h
theorem log2_1920 {n : Int} (h : n.natAbs < 2 ^ 1900) : n.natAbs.log2 < 1920 := Nat.lt_of_lt_of_le (PySem.Flt.log2_lt_of (by decide) h) (by decide)
theorem log2n {n : Nat} (h : n < 2 ^ 1900) : (n : Int).natAbs.log2 < 1920 := log2_1920 (by rw [Int.natAbs_natCast]; exact h)
theorem same_mk {H H' : Hp} {p : Addr} {o : HO} (s : Same H H') (h : H' p = none) : Same H (upd H' p o) := fun b u e => by
  rw [upd_ne (ne_of_none (s b u e) h)]
  exact s b u e
theorem same_put {H H' : Hp} {p : Addr} {o : HO} (s : Same H H') (h : H p = none) : Same H (upd H' p o) := fun b u e => by
  rw [upd_ne (ne_of_none e h)]
  exact s b u e
/-- an int of a natural number, as a value -/
abbrev vn (n : Nat) : V := .int (n : Int)
/-! ### digits_of -/
def pws (j : Nat) : List V := (List.range (j + 1)).map fun i => vn (pw i)
theorem pws_succ (j : Nat) : pws (j + 1) = pws j ++ [vn (pw (j + 1))] := by
  unfold pws
  rw [List.range_succ, List.map_append]
  rfl
theorem pws_last (j : Nat) : ∃ l, pws j = l ++ [vn (pw j)] ∧ l.length = j := by
  refine ⟨(List.range j).map fun i => vn (pw i), ?_, by simp⟩
  unfold pws
  rw [List.range_succ, List.map_append]
  rfl
theorem pws_len (j : Nat) : (pws j).length = j + 1 := by simp [pws]
theorem pws_get {j i : Nat} (h : i ≤ j) : (pws j)[i]? = some (vn (pw i)) := by
  unfold pws
  rw [List.getElem?_map, List.getElem?_range (by omega)]
  rfl
theorem pw_sq (j : Nat) : pw j * pw j = pw (j + 1) := by
  unfold pw
  rw [← Nat.pow_add]
  congr 1
  rw [Nat.pow_succ]
  omega
theorem pw_lt : ∀ j, j ≤ 4 → pw j < 2 ^ 4000 := by
  intro j hj
  have : j = 0 ∨ j = 1 ∨ j = 2 ∨ j = 3 ∨ j = 4 := by omega
  rcases this with rfl | rfl | rfl | rfl | rfl <;> (unfold pw; decide +kernel)
theorem pw_big : 2 ^ 1900 ≤ pw 4 := by unfold pw; decide +kernel
theorem pw_zero : pw 0 = 10 ^ 64 := by unfold pw; rfl
theorem pw_pos (j : Nat) : 0 < pw j := by unfold pw; exact Nat.pow_pos (by decide)
theorem szl {n : Nat} (h : n ≤ 1000) : n ≤ sizeLine := Nat.le_of_lt (small1000 h)
theorem szb {n : Nat} (h : n ≤ 100000) : n ≤ sizeLine := Nat.le_trans h (by rw [sizeLine_eq]; decide)
theorem bits_le {n b : Nat} (h : n < 2 ^ b) : Builtin.Int.intBits (n : Int) ≤ b := by
  unfold Builtin.Int.intBits
  rw [Int.natAbs_natCast]
  split
  · exact Nat.zero_le _
  · rename_i h0
    have h1 : n ≠ 0 := fun e => h0 (by rw [e]; rfl)
    exact (Nat.log2_lt h1).mpr h
theorem lt_bits (n : Nat) : n < 2 ^ Builtin.Int.intBits (n : Int) := by
  unfold Builtin.Int.intBits
  rw [Int.natAbs_natCast]
  split
  · rename_i h0
    have h1 : n = 0 := by simpa using h0
    rw [h1]
    decide
  · exact Nat.lt_log2_self
theorem nt_len {m : Nat} (h : m < 2 ^ 1900) : (nt (m : Int)).length ≤ 1000 := by
  rw [len_tl, tl_nt]
  exact dg_le (by decide) (Nat.lt_trans h (by decide +kernel))
/-- the parts' texts of 64 digits -/
def zfills (ps : List Nat) : List Str := ps.map fun (p : Nat) => Txt.zfill (nt (p : Int)) 64
theorem zf_len {p : Nat} (h : p < 10 ^ 64) : (Txt.zfill (nt (p : Int)) 64).length = 64 := by
  rw [len_tl, tl_zfill64 h, pad_len]
theorem zfills_len : ∀ (ps : List Nat), (∀ p ∈ ps, p < 10 ^ 64) → ((zfills ps).map (·.length)).sum = 64 * ps.length
  | [], _ => rfl
  | p :: ps, h => by
    have ih := zfills_len ps fun q hq => h q (List.mem_cons_of_mem _ hq)
    have e : zfills (p :: ps) = Txt.zfill (nt (p : Int)) 64 :: zfills ps := rfl
    rw [e, List.map_cons, List.sum_cons, ih, zf_len (h p (List.mem_cons_self ..)), List.length_cons]
    omega
theorem join_zfills (ps : List Nat) (h : ∀ p ∈ ps, p < 10 ^ 64) : tl (Txt.join ("" : Str) (zfills ps)) = ps.flatMap (pad 64) := by
  rw [join_eq, tl_join, show tl ("" : Str) = [] by decide +kernel, joinL_nil]
  have e : (zfills ps).map tl = ps.map (pad 64) := by
    unfold zfills
    rw [List.map_map]
    exact List.map_congr_left fun p hp => tl_zfill64 (h p hp)
  rw [e, List.flatMap_def]
theorem pads_len : ∀ ps : List Nat, (ps.flatMap (pad 64)).length = 64 * ps.length
  | [] => rfl
  | p :: ps => by
    rw [List.flatMap_cons, List.length_append, pad_len, pads_len ps, List.length_cons]
    omega
/-- behind i turns over the powers: the parts of n, each below 10 ^ (64 * 2 ^ (j + 1 - i)) -/
structure Parts (n j i : Nat) (ps : List Nat) : Prop where
  len : ps.length = 2 ^ i
  lt : ∀ p ∈ ps, p < 10 ^ (64 * 2 ^ (j + 1 - i))
  eq : ps.flatMap (pad (64 * 2 ^ (j + 1 - i))) = pad (64 * 2 ^ (j + 1)) n
theorem parts_start {n j : Nat} (h : n < pw j) : Parts n j 0 [n] := by
  refine ⟨rfl, fun p hp => ?_, by simp⟩
  rw [List.mem_singleton.mp hp]
  unfold pw at h
  refine Nat.lt_of_lt_of_le h (Nat.pow_le_pow_right (by decide) (Nat.mul_le_mul_left _ (Nat.pow_le_pow_right (by decide) (by omega))))
theorem Parts.turn {n j i : Nat} {ps : List Nat} (h : Parts n j i ps) (hi : i < j + 1) : Parts n j (i + 1) (ps.flatMap fun p => [p / pw (j - i), p % pw (j - i)]) := by
  have e0 : (ps.flatMap fun p => [p / pw (j - i), p % pw (j - i)]) = halves (64 * 2 ^ (j - i)) ps := by
    unfold halves pw
    rfl
  have e1 : j + 1 - (i + 1) = j - i := by omega
  have e2 : 64 * 2 ^ (j + 1 - i) = 64 * 2 ^ (j - i) + 64 * 2 ^ (j - i) := by
    rw [show j + 1 - i = j - i + 1 by omega, Nat.pow_succ]
    omega
  rw [e0]
  have hlt := h.lt
  have heq := h.eq
  rw [e2] at hlt heq
  refine ⟨by rw [halves_len, h.len, Nat.pow_succ, Nat.mul_comm], ?_, ?_⟩
  · rw [e1]
    exact halves_lt hlt
  · rw [e1, pads_halves]
    exact heq
theorem Parts.small {n j i : Nat} {ps : List Nat} (h : Parts n j i ps) (hi : i < j + 1) : ∀ p ∈ ps, p < pw (j - i) * pw (j - i) := fun p hp => by
  rw [pw_sq]
  have := h.lt p hp
  unfold pw
  rw [show j - i + 1 = j + 1 - i by omega]
  exact this
theorem Parts.few {n j i : Nat} {ps : List Nat} (h : Parts n j i ps) (hj : j ≤ 4) (hi : i ≤ j + 1) : ps.length ≤ 32 := by
  rw [h.len]
  exact Nat.le_trans (Nat.pow_le_pow_right (by decide) (show i ≤ 5 by omega)) (by decide)
theorem two_len {f g : Nat → Nat} : ∀ l : List Nat, (l.flatMap fun p => [f p, g p]).length = 2 * l.length
  | [] => rfl
  | p :: l => by
    have h := two_len (f := f) (g := g) l
    simp only [List.flatMap_cons, List.length_append, List.length_cons, List.length_nil, h]
    omega
theorem yes_of {σ : L2.St} {H : Hp} {F G : Hp → Prop} (h : F H) : tYes σ H (fun b H3 => if b = true then F H3 else G H3) := by
  show if true = true then F H else G H
  rw [if_pos rfl]
  exact h
/-- the reading of [half for part in parts for half in divmod(part, power)], slots: 2 parts, 3 power, 4 part, 5 half -/
def rDm : List V → Hp → VK → Prop := fun xs H Q => ∃ i j, xs = [.int i, .int j] ∧ CDivP i j ∧ ∀ p, H p = none → Q (.ref p) (upd H p (.tup [.int (i / j), .int (i % j)]))
theorem halves_lc {K K' : PySem.W.Frag} {a b c d : Option V} {q : Addr} {ps : List Nat} {pw : Nat} {σ : L2.St} {H : Hp} {Q : VK} (hs : σ = [a, b, some (.ref q), some (vn pw), c, d]) (hq : H q = some (.lst (ps.map vn))) (p0 : 0 < pw) (pl : pw < 2 ^ 4000)
    (hp : ∀ p ∈ ps, p < pw * pw) (hl : ps.length ≤ 100) (k : ∀ D H', Same H H' → H D = none → H' D = some (.lst ((ps.flatMap fun p => [p / pw, p % pw]).map vn)) → Q (.ref D) H') :
    tLc2 (iList K' (tVar 2)) (gName 4) tYes (iTup K (tCB rDm (tCons (tVar 4) (tCons (tVar 3) tNil)))) (gName 5) tYes (tVar 5) [4, 5] [5] σ H Q := by
  subst hs
  refine ⟨_, rfl, q, rfl, ⟨_, SqL.of hq⟩, fun D nD => ?_⟩
  have nqD : q ≠ D := ne_of_none hq nD
  refine loop_list (xs := ps.map vn) (fun i H' => Same H H' ∧ H' D = some (.lst (((ps.take i).flatMap fun p => [p / pw, p % pw]).map vn))) ⟨same_mk (Same.refl H) nD, upd_same⟩ (fun i H' _ h => SqL.of (h.1 _ _ hq)) ?_ ?_
  · rintro i x H3 hx ⟨t1, t2⟩
    obtain ⟨p, hp', rfl⟩ : ∃ p, ps[i]? = some p ∧ vn p = x := by
      rw [List.getElem?_map] at hx
      cases e : ps[i]? with
      | none => rw [e] at hx; cases hx
      | some p => rw [e] at hx; exact ⟨p, rfl, Option.some.inj hx⟩
    have len1 : (((ps.take i).flatMap fun p => [p / pw, p % pw]).map vn).length ≤ 200 := by
      rw [List.length_map, show (ps.take i).flatMap (fun p => [p / pw, p % pw]) = (ps.take i).flatMap (fun p => [p / pw, p % pw]) from rfl, two_len, List.length_take]
      omega
    have b1 : Builtin.Int.intBits (p : Int) ≤ Builtin.Int.intBits (pw : Int) + 4000 := bits_le (by
      rw [Nat.pow_add]
      exact Nat.lt_trans (hp p (List.mem_of_getElem? hp')) (Nat.mul_lt_mul'' (lt_bits pw) pl))
    refine ⟨rfl, yes_of ?_⟩
    refine ⟨_, rfl, _, rfl, _, _, rfl, divp_ok (by omega) b1, fun tp ntp => ⟨tp, rfl, ⟨_, SqT.of upd_same⟩, ?_⟩⟩
    have nDt : D ≠ tp := ne_of_none t2 ntp
    refine loop_tup (xs := [vn (p / pw), vn (p % pw)]) (fun k H' => Same H H' ∧ H' tp = some (.tup [vn (p / pw), vn (p % pw)]) ∧ H' D = some (.lst (((ps.take i).flatMap fun p => [p / pw, p % pw]).map vn ++ ([vn (p / pw), vn (p % pw)] : List V).take k)))
      ⟨same_mk t1 ntp, upd_same, by rw [upd_ne nDt, t2]; simp⟩ (fun i' H' _ h => SqT.of h.2.1) ?_ ?_
    · rintro k x H4 hx ⟨u1, u2, u3⟩
      have hk : k < 2 := (List.getElem?_eq_some_iff.mp hx).1
      refine ⟨rfl, yes_of ?_⟩
      refine ⟨_, rfl, _, u3, small1000 ?_, same_put u1 nD, by rw [upd_ne (Ne.symm nDt)]; exact u2, ?_⟩
      · rw [List.length_append, List.length_take]
        have : ([vn (p / pw), vn (p % pw)] : List V).length = 2 := rfl
        omega
      · rw [upd_same, List.append_assoc, List.take_add_one, hx]
        rfl
    · rintro H4 ⟨u1, u2, u3⟩
      refine ⟨u1, ?_⟩
      rw [u3, List.take_add_one, hp', List.flatMap_append, List.map_append]
      rfl
  · rintro H4 ⟨u1, u2⟩
    refine k D H4 u1 nD ?_
    rw [u2, List.length_map, List.take_length]
def spDig : Sp := fun vs H Q _ => ∃ n : Nat, vs = [vn n] ∧ n < 2 ^ 1900 ∧ ∀ H', Same H H' → Q (.str (nt n)) H'
def spDec : Sp := fun vs H Q _ => ∃ n : Int, vs = [.int n] ∧ n.natAbs < 2 ^ 1900 ∧ ∀ H', Same H H' → Q (.str (nt n)) H'
section
variable {P : Program} {w : World} {K : PySem.W.Frag} {mg : Str → Option Value} {base : Heap}
theorem ok_digits_of (T : Txt K mg) : FnOk P w K mg base CX0 1 (He.ga K "digits_of") (fdAt K D_digits_of) ["number"] spDig := by
  refine okN T.d_digits_of sc_digits_of (fun vs H Q E h => ?_) (fun cdv A outer s H vs Q E hr h => ?_)
  · obtain ⟨n, rfl, _⟩ := h
    rfl
  · obtain ⟨n, rfl, hn, k⟩ := h
    refine ⟨_, (pss_cons (ps_if (pt_cmpR op_lt (pv 0) (pe_gint rfl T.c_CHUNK) (nomark _)) (pss_one (ps_ret (pe_callTy call_str_int rfl T.n_str (by decide +kernel) (pa_cons (pv 0) pa_nil)))) pss_nil)
        (pss_cons (ps_set (i := 1) sc_digits_of.nd rfl (Or.inl rfl) (pe_lst (pa_cons (pe_gint rfl T.c_CHUNK) pa_nil)))
        (pss_cons (ps_while PassesOwn.never (pt_cmpR op_le (pe_ix ix_listk (pv 1) (pe_un un_neg pe_int) (fun _ _ => rfl)) (pv 0) (nomark _)) (pss_one (ps_expr (pe_bmk PySem.F.plainAttrs_list PySem.F.slot_list_append PySem.F.type_list_append mt_append (pv 1) (pa_cons (pe_op op_mulW (pe_ix ix_listk (pv 1) (pe_un un_neg pe_int) (fun _ _ => rfl)) (pe_ix ix_listk (pv 1) (pe_un un_neg pe_int) (fun _ _ => rfl))) pa_nil)))))
        (pss_cons (ps_set (i := 2) sc_digits_of.nd rfl (Or.inl rfl) (pe_lst (pa_cons (pv 0) pa_nil)))
        (pss_cons (ps_for PassesOwn.never rfl (pi_reversed rfl T.n_reversed (pa_cons (pv 1) pa_nil)) (pg_name (i := 3) sc_digits_of.nd rfl (Or.inr rfl)) (pss_one (ps_setLc2 (i := 2) (own := [("part", 4), ("half", 5)]) (vs1 := [5]) rfl sc_digits_of.nd rfl rfl (sw_true rfl rfl rfl (by decide +kernel)) (pi_listk (pv 2)) (blkOk_by (N := N_digits_of) (sc := defScope s_digits_of) (by decide +kernel)) (by decide) (fun _ _ _ _ _ => by exact (pg_name (i := 4) sc_digits_of.nd rfl (Or.inl rfl))) (fun _ _ _ _ _ => by exact pts_nil) (fun _ _ _ _ _ => by exact (pi_tupk (pe_callB call_divmodW rfl T.n_divmod (by decide +kernel) (pa_cons (pv 4) (pa_cons (pv 3) pa_nil))))) (fun _ _ _ _ _ => by exact (pg_name (i := 5) sc_digits_of.nd rfl (Or.inl rfl))) (fun _ _ _ _ _ => by exact pts_nil) (fun _ _ _ _ _ => by exact (pv 5)))))
        (pss_one (ps_ret (pe_bmk PySem.F.plainAttrs_str PySem.F.slot_str_lstrip PySem.F.type_str_lstrip mt_lstripChars (pe_bmk PySem.F.plainAttrs_str PySem.F.slot_str_join PySem.F.type_str_join mt_join pe_str (pa_cons (pe_lc (own := [("part", 4)]) rfl sc_digits_of.nd (pi_listk (pv 2)) (blkOk_by (N := N_digits_of) (sc := defScope s_digits_of) (by decide +kernel)) (fun _ _ _ _ _ => by exact (pg_name (i := 4) sc_digits_of.nd rfl (Or.inl rfl))) (fun _ _ _ _ _ => by exact pts_nil) (fun _ _ _ _ _ => by exact (pe_bmk PySem.F.plainAttrs_str PySem.F.slot_str_zfill PySem.F.type_str_zfill mt_zfill (pe_callTy call_str_int rfl T.n_str (by decide +kernel) (pa_cons (pv 4) pa_nil)) (pa_cons (pe_gint rfl T.c_DIGITS_OF_A_CHUNK) pa_nil)))) pa_nil)) (pa_cons pe_str pa_nil))))))))), ?_⟩
    refine ⟨_, rfl, _, _, rfl, rfl, _, rfl, iteD (fun h1 => ?_) (fun h1 => ?_)⟩
    · refine ⟨_, rfl, _, rfl, log2n hn, ?_⟩
      exact k H (Same.refl H)
    · have h10 : pw 0 ≤ n := by have := h1; omega
      refine ⟨by decide, fun pp npp => ?_⟩
      -- while powers[-1] <= number
      refine ⟨fun m σ H' => ∃ j, j ≤ 4 ∧ m = 5 - j ∧ σ = [some (vn n), some (.ref pp), none, none, none, none] ∧ Same H H' ∧ H' pp = some (.lst (pws j)), ⟨5, 0, by omega, rfl, rfl, same_mk (Same.refl H) npp, upd_same⟩, ?_⟩
      rintro m σ H1 ⟨j, hj, rfl, rfl, s1, hp⟩
      obtain ⟨l, el, hl⟩ := pws_last j
      refine ⟨_, rfl, _, rfl, pp, _, _, _, rfl, rfl, SqL.of (by rw [hp, el]), atI_last _ _, _, rfl, _, _, rfl, rfl, _, rfl, iteD (fun h2 => ?_) (fun h2 => ?_)⟩
      · have hle : pw j ≤ n := by have := h2; omega
        have hj3 : j ≤ 3 := by
          have := pw_big
          rcases Nat.lt_or_ge 3 j with h | h
          · have : j = 4 := by omega
            subst this
            omega
          · exact h
        refine ⟨fun σ' H' => ∃ j', j' = j + 1 ∧ σ' = [some (vn n), some (.ref pp), none, none, none, none] ∧ Same H H' ∧ H' pp = some (.lst (pws j')), fun σ' H' ⟨j', e, a, b, c⟩ => ⟨5 - (j + 1), by omega, j + 1, by omega, rfl, a, b, by rw [c, e]⟩, ?_⟩
        refine ⟨_, rfl, .inl ⟨rfl, _, SqL.of hp⟩, _, rfl, _, rfl, pp, _, _, _, rfl, rfl, SqL.of (by rw [hp, el]), atI_last _ _, _, rfl, _, rfl, pp, _, _, _, rfl, rfl, SqL.of (by rw [hp, el]), atI_last _ _, _, _, rfl, rfl, ?_, pp, _, _, rfl, rfl, hp, ?_, ?_⟩
        · exact wide_mul (a := 4000) (b := 4000) (pw_lt j hj) (pw_lt j hj) (by decide) (by decide) (by decide)
        · rw [pws_len]; exact small1000 (by omega)
        · refine ⟨j + 1, rfl, rfl, same_put s1 npp, ?_⟩
          rw [upd_same, pws_succ, ← pw_sq]
          show some (HO.lst (pws j ++ [V.int ((pw j : Int) * (pw j : Int))])) = _
          rw [← Int.natCast_mul]
      · have hlt : n < pw j := by have := h2; omega
        -- parts = [number]
        refine ⟨_, rfl, szl (by show 1 ≤ 1000; decide), fun q nq => ?_⟩
        have npq : pp ≠ q := ne_of_none hp nq
        -- for power in reversed(powers)
        refine ⟨_, rfl, pp, _, rfl, SqL.of (by rw [upd_ne npq]; exact hp), RT.for_Itv (fun i σ H' => ∃ (q : Addr) (ps : List Nat) (v : Option V), σ = [some (vn n), some (.ref pp), some (.ref q), v, none, none] ∧ Same H H' ∧ H' pp = some (.lst (pws j)) ∧ H' q = some (.lst (ps.map vn)) ∧ Parts n j i ps)
          ⟨q, [n], none, rfl, same_mk s1 nq, by rw [upd_ne npq]; exact hp, upd_same, parts_start hlt⟩ (fun i σ H' ⟨q, ps, v, _, _, h, _⟩ => SqL.of h) ?_ ?_⟩
        · rintro i x σ H2 hi hx ⟨q, ps, v, rfl, s2, h2, h3, hP⟩
          rw [pws_len] at hi hx
          rw [show j + 1 - 1 - i = j - i by omega, pws_get (Nat.sub_le _ _)] at hx
          obtain rfl := Option.some.inj hx
          show tAsg _ _ _ _ _
          show tLc2 _ _ _ _ _ _ _ _ _ _ _ _
          refine halves_lc (q := q) (ps := ps) (pw := pw (j - i)) rfl h3 (pw_pos _) (pw_lt _ (by omega)) (hP.small (by omega)) (by have := hP.few hj (by omega); omega) (fun D H' e1 nD e2 => ?_)
          refine ⟨D, (ps.flatMap fun p => [p / pw (j - i), p % pw (j - i)]), some (vn (pw (j - i))), rfl, fun b o e => e1 b o (s2 b o e), e1 _ _ h2, e2, hP.turn (by omega)⟩
        · rintro σ H2 ⟨q, ps, v, rfl, s2, h2, h3, hP⟩
          rw [pws_len] at hP
          have hps : ∀ p ∈ ps, p < 10 ^ 64 := fun p hp => by
            have := hP.lt p hp
            rw [Nat.sub_self, Nat.pow_zero, Nat.mul_one] at this
            exact this
          have heq : ps.flatMap (pad 64) = pad (64 * 2 ^ (j + 1)) n := by
            have := hP.eq
            rw [Nat.sub_self, Nat.pow_zero, Nat.mul_one] at this
            exact this
          have few := hP.few hj (Nat.le_refl _)
          have len := zfills_len ps hps
          refine ⟨rfl, _, rfl, q, rfl, ⟨_, SqL.of h3⟩, fun D nD => ?_⟩
          refine loop_list (xs := ps.map vn) (fun i H' => Same H2 H' ∧ H' D = some (.lst ((zfills (ps.take i)).map V.str))) ⟨same_mk (Same.refl _) nD, upd_same⟩ (fun i H' _ h => SqL.of (h.1 _ _ h3)) ?_ ?_
          · rintro i x H3 hx ⟨t1, t2⟩
            obtain ⟨p, hp', rfl⟩ : ∃ p, ps[i]? = some p ∧ vn p = x := by
              rw [List.getElem?_map] at hx
              cases e : ps[i]? with
              | none => rw [e] at hx; cases hx
              | some p => rw [e] at hx; exact ⟨p, rfl, Option.some.inj hx⟩
            have il : i < ps.length := (List.getElem?_eq_some_iff.mp hp').1
            refine ⟨rfl, yes_of ?_⟩
            refine ⟨_, rfl, _, rfl, log2n (Nat.lt_trans (hps p (List.mem_of_getElem? hp')) (by decide +kernel)), rfl, _, _, rfl, rfl, by decide +kernel, _, t2, small1000 ?_, same_put t1 nD, ?_⟩
            · unfold zfills
              rw [List.length_map, List.length_map, List.length_take]
              omega
            · rw [upd_same]
              unfold zfills
              rw [List.take_add_one, hp', List.map_append, List.map_append]
              rfl
          · rintro H3 ⟨t1, t2⟩
            rw [List.length_map, List.take_length] at t2
            have j0 : tl (Txt.join ("" : Str) (zfills ps)) = pad (64 * 2 ^ (j + 1)) n := by
              rw [join_zfills ps hps, heq]
            refine ⟨_, D, zfills ps, rfl, rfl, .inl (SqL.of t2), ?_, rfl, _, _, rfl, rfl, ?_, ?_⟩
            · rw [len]
              show 64 * ps.length + (zfills ps).length * 0 ≤ _
              omega
            · have e := congrArg List.length (join_zfills ps hps)
              rw [pads_len] at e
              refine Nat.le_trans (Nat.le_of_eq ?_) (szb (n := 64 * ps.length) ?_)
              · rw [← e]
                simp [Str.length, tl]
              · omega
            · have e : Txt.lstripChars (Txt.join ("" : Str) (zfills ps)) ("0" : Str) = nt (n : Int) :=
                fin_text (k := 64 * 2 ^ (j + 1)) (by have := pw_pos 0; omega) (by have := Nat.pow_pos (n := j + 1) (show 0 < 2 by decide); omega) (Nat.lt_of_lt_of_le hlt ?_) hps heq
              · show Q (.str (Txt.lstripChars (Txt.join ("" : Str) (zfills ps)) ("0" : Str))) H3
                rw [e]
                exact k H3 fun b o z => t1 b o (s2 b o z)
              · unfold pw
                exact Nat.pow_le_pow_right (by decide) (Nat.mul_le_mul_left _ (Nat.pow_le_pow_right (by decide) (by omega)))
theorem ok_decimal (T : Txt K mg) : FnOk P w K mg base CX0 2 (He.ga K "decimal") (fdAt K D_decimal) ["number"] spDec := by
  refine okN T.d_decimal sc_decimal (fun vs H Q E h => ?_) (fun cdv A outer s H vs Q E hr h => ?_)
  · obtain ⟨n, rfl, _⟩ := h
    rfl
  · obtain ⟨n, rfl, hn, k⟩ := h
    refine ⟨_, (pss_cons (ps_if (pt_cmpR op_lt (pv 0) pe_int (nomark _)) (pss_one (ps_ret (pe_op op_add_str pe_str (pe_call (ok_digits_of T) (hr.mono (by decide)) rfl T.m_digits_of T.k_digits_of (T.b_digits_of) .nil pass0 (pa_cons (pe_un un_neg (pv 0)) pa_nil))))) pss_nil)
        (pss_one (ps_ret (pe_call (ok_digits_of T) (hr.mono (by decide)) rfl T.m_digits_of T.k_digits_of (T.b_digits_of) .nil pass0 (pa_cons (pv 0) pa_nil))))), ?_⟩
    refine ⟨_, rfl, _, _, rfl, rfl, _, rfl, iteD (fun h1 => ?_) (fun h1 => ?_)⟩
    · obtain ⟨m, hm⟩ := Int.eq_ofNat_of_zero_le (show 0 ≤ -n by omega)
      have hm2 : m < 2 ^ 1900 := by omega
      refine ⟨_, rfl, _, rfl, m, congrArg (fun i => [V.int i]) hm, hm2, fun H' s1 => ⟨_, _, rfl, rfl, ?_, ?_⟩⟩
      · have l1 : (nt (m : Int)).length ≤ 1000 := nt_len hm2
        have l2 : ("-" : Str).length = 1 := by decide +kernel
        exact Nat.le_trans (show _ ≤ 1001 by omega) (szb (by decide))
      · rw [show (m : Int) = -n by omega, ← nt_neg h1]
        exact k H' s1
    · obtain ⟨m, rfl⟩ := Int.eq_ofNat_of_zero_le (show 0 ≤ n by omega)
      exact ⟨_, rfl, m, rfl, hn, k⟩
end
end Km

set_option Elab.async false
set_option linter.all false
set_option maxRecDepth 100000
set_option maxHeartbeats 4000000
namespace Km
open PySem PySem.Spec PyProof.Rows L2 Lx Dg TL Lo
section
variable {X : Cx}
theorem op_eqI : OpR X (compareOp .Eq) (rI0 fun i j => .bl (decide (i = j))) := fun pins s σ H x y v u Q I rx ry h => by
  obtain ⟨i, j, rfl, rfl, q⟩ := h
  exact op_eq pins s σ H _ _ v u Q I rx ry ⟨rfl, by rw [show decide (V.int i = V.int j) = decide (i = j) by simp]; exact q⟩
theorem op_neI : OpR X (compareOp .NotEq) (rI0 fun i j => .bl (!decide (i = j))) := fun pins s σ H x y v u Q I rx ry h => by
  obtain ⟨i, j, rfl, rfl, q⟩ := h
  exact op_ne pins s σ H _ _ v u Q I rx ry ⟨rfl, by rw [show decide (V.int i = V.int j) = decide (i = j) by simp]; exact q⟩
end
theorem putF_le (f : Str) (v : V) : ∀ fs : List (Str × V), (putF f v fs).length ≤ fs.length + 1
  | [] => Nat.le_refl 1
  | (g, x) :: r => by
    unfold putF
    split
    · exact Nat.le_succ _
    · exact Nat.succ_le_succ (putF_le f v r)
theorem ps_absurd {X : Cx} {st : Stmt} : PS X st (fun _ _ _ => False) := ⟨fun _ _ _ _ _ _ h => h.elim⟩
theorem pss_absurd {X : Cx} {st : List Stmt} : PSs X st (fun _ _ _ => False) := ⟨fun _ _ _ _ _ _ h => h.elim⟩
/-- a ratio's text -/
def rt (t b : Int) : Str := if b = 1 then nt t else nt t ++ "/" ++ nt b
theorem ntz {n : Int} (h : n.natAbs < 2 ^ 1900) : (nt n).length ≤ 1001 := by
  by_cases h0 : n < 0
  · have e := nt_neg h0
    obtain ⟨m, hm⟩ := Int.eq_ofNat_of_zero_le (show 0 ≤ -n by omega)
    rw [hm] at e
    have := nt_len (m := m) (by omega)
    rw [e, Str.length_append]
    have l2 : ("-" : Str).length = 1 := by decide +kernel
    omega
  · obtain ⟨m, hm⟩ := Int.eq_ofNat_of_zero_le (show 0 ≤ n by omega)
    rw [hm]
    have := nt_len (m := m) (by omega)
    omega
section
variable {P : Program} {w : World} {K : PySem.W.Frag} {mg : Str → Option Value} {base : Heap}
def spRt : Sp := fun vs H Q _ => ∃ t b : Int, vs = [.int t, .int b] ∧ t.natAbs < 2 ^ 1900 ∧ b.natAbs < 2 ^ 1900 ∧ ∀ H', Same H H' → Q (.str (rt t b)) H'
theorem ok_ratio_text (T : Txt K mg) : FnOk P w K mg base CX0 3 (He.ga K "ratio_text") (fdAt K D_ratio_text) ["top", "bottom"] spRt := by
  refine okN T.d_ratio_text sc_ratio_text (fun vs H Q E h => ?_) (fun cdv A outer s H vs Q E hr h => ?_)
  · obtain ⟨t, b, rfl, _⟩ := h
    rfl
  · obtain ⟨t, b, rfl, ht, hb, k⟩ := h
    refine ⟨_, (pss_cons (ps_if (pt_cmpR op_eqI (pv 1) pe_int (nomark _)) (pss_one (ps_ret (pe_call (ok_decimal T) (hr.mono (by first | decide | omega)) rfl T.m_decimal T.k_decimal (T.b_decimal) .nil pass0 (pa_cons (pv 0) pa_nil)))) pss_nil)
        (pss_one (ps_ret (pe_op op_add_str (pe_op op_add_str (pe_call (ok_decimal T) (hr.mono (by first | decide | omega)) rfl T.m_decimal T.k_decimal (T.b_decimal) .nil pass0 (pa_cons (pv 0) pa_nil)) pe_str) (pe_call (ok_decimal T) (hr.mono (by first | decide | omega)) rfl T.m_decimal T.k_decimal (T.b_decimal) .nil pass0 (pa_cons (pv 1) pa_nil)))))), ?_⟩
    refine ⟨_, rfl, _, _, rfl, rfl, _, rfl, iteD (fun h1 => ?_) (fun h1 => ?_)⟩
    · exact ⟨_, rfl, t, rfl, ht, fun H' s1 => by have := k H' s1; rw [rt, if_pos h1] at this; exact this⟩
    · refine ⟨_, rfl, t, rfl, ht, fun H1 s1 => ⟨_, _, rfl, rfl, ?_, ?_⟩⟩
      · exact Nat.le_trans (Nat.add_le_add (ntz ht) (Nat.le_refl _)) (szb (by decide +kernel))
      · refine ⟨_, rfl, b, rfl, hb, fun H2 s2 => ⟨_, _, rfl, rfl, ?_, ?_⟩⟩
        · rw [Str.length_append]
          exact Nat.le_trans (Nat.add_le_add (Nat.add_le_add (ntz ht) (Nat.le_refl _)) (ntz hb)) (szb (by decide +kernel))
        · have := k H2 (Same.trans s1 s2)
          rw [rt, if_neg h1] at this
          exact this
/-- at p: the ratio t / b -/
def RatAt (K : PySem.W.Frag) (H : Hp) (p : Addr) (t b : Int) : Prop := ∃ dx fs, H p = some (.ins (He.ga K "Ratio") dx fs) ∧ fs.lookup ("top" : Str) = some (V.int t) ∧ fs.lookup ("bottom" : Str) = some (V.int b) ∧ fs.lookup ("text" : Str) = some (V.str (rt t b)) ∧ fs.lookup ("is_less" : Str) = none
def spIni (K : PySem.W.Frag) : Sp := fun vs H Q _ => ∃ (a dx : Addr) (t b : Int), vs = [.ref a, .int t, .int b] ∧ H a = some (.ins (He.ga K "Ratio") dx []) ∧ b ≠ 0 ∧ t.natAbs < 2 ^ 1900 ∧ b.natAbs < 2 ^ 1900 ∧ ∀ H', (∀ x u, x ≠ a → H x = some u → H' x = some u) → RatAt K H' a (lowT t b) (lowB t b) → Q .non H'
theorem ok_Ratio__init (T : Txt K mg) : FnOk P w K mg base CX0 4 (He.ma K (He.ga K "Ratio") "__init__") (fdAt K D_Ratio__init) ["self", "top", "bottom"] (spIni K) := by
  refine okN T.d_Ratio__init sc_Ratio__init (fun vs H Q E h => ?_) (fun cdv A outer s H vs Q E hr h => ?_)
  · obtain ⟨_, _, _, _, rfl, _⟩ := h
    rfl
  · obtain ⟨a, dx, t, b, rfl, ha, hb0, ht, hb, k⟩ := h
    refine ⟨_, (pss_cons (ps_if (pt_cmpR op_eqI (pv 2) pe_int (nomark _)) (pss_one ps_absurd) pss_nil)
        (pss_cons (ps_set (i := 3) sc_Ratio__init.nd rfl (Or.inl rfl) (pe_callBfun cr_gcd rfl T.m_gcd (pa_cons (pv 1) (pa_cons (pv 2) pa_nil))))
        (pss_cons (ps_if (pt_cmpR op_lt (pv 2) pe_int (nomark _)) (pss_one (ps_set (i := 3) sc_Ratio__init.nd rfl (Or.inl rfl) (pe_un un_neg (pv 3)))) pss_nil)
        (pss_cons (ps_fld (pv 0) (pe_op op_fdivWN (pv 1) (pv 3)) rfl)
        (pss_cons (ps_fld (pv 0) (pe_op op_fdivWN (pv 2) (pv 3)) rfl)
        (pss_one (ps_fld (pv 0) (pe_call (ok_ratio_text T) (hr.mono (by first | decide | omega)) rfl T.m_ratio_text T.k_ratio_text (T.b_ratio_text) .nil pass0 (pa_cons (pe_fldk (pv 0) rfl) (pa_cons (pe_fldk (pv 0) rfl) pa_nil))) rfl))))))), ?_⟩
    refine ⟨_, rfl, _, _, rfl, rfl, _, rfl, iteD (fun h1 => ?_) (fun h1 => ?_)⟩
    · exact hb0 h1
    · have hg := gcd_pos (t := t) hb0
      have hgl : Nat.gcd t.natAbs b.natAbs < 2 ^ 1900 := Nat.lt_of_le_of_lt (Nat.le_of_dvd (by omega) (Nat.gcd_dvd_right _ _)) hb
      have hw : CDivWN t (gg t b) ∧ CDivWN b (gg t b) := by
        have z : CDivWN t (gg t b) := wide_divN (gg_ne hb0) (by rw [gg_abs]; exact hgl) (by decide) (by decide)
        exact ⟨z, z⟩
      refine ⟨_, rfl, _, rfl, _, _, rfl, _, rfl, _, _, rfl, rfl, _, rfl, iteD (fun h2 => ?_) (fun h2 => ?_)⟩
      · refine ⟨_, rfl, _, rfl, ?_⟩
        have e : -((Nat.gcd t.natAbs b.natAbs : Nat) : Int) = gg t b := by unfold gg; rw [if_pos h2]
        rw [show ((fun i : Int => V.int (-i)) ((Nat.gcd t.natAbs b.natAbs : Nat) : Int)) = V.int (gg t b) from congrArg V.int e]
        refine ⟨_, rfl, _, rfl, _, _, rfl, rfl, hw.1, _, rfl, a, _, dx, _, rfl, ha, T.cl_Ratio, T.na_Ratio_top, by decide, ?_⟩
        refine ⟨_, rfl, _, rfl, _, _, rfl, rfl, hw.2, _, rfl, a, _, dx, _, rfl, upd_same, T.cl_Ratio, T.na_Ratio_bottom, Nat.lt_of_le_of_lt (putF_le _ _ _) (by decide), ?_⟩
        refine ⟨_, rfl, a, _, dx, _, V.int (lowT t b), rfl, upd_same, T.cl_Ratio, T.na_Ratio_top, rfl, _, rfl, a, _, dx, _, V.int (lowB t b), rfl, upd_same, T.cl_Ratio, T.na_Ratio_bottom, rfl, lowT t b, lowB t b, rfl, ?_, ?_, fun H2 s2 => ?_⟩
        · exact Nat.lt_of_le_of_lt (lowT_le hb0) ht
        · exact Nat.lt_of_le_of_lt (lowB_le hb0) hb
        · refine ⟨_, rfl, a, _, dx, _, rfl, s2 _ _ upd_same, T.cl_Ratio, T.na_Ratio_text, Nat.lt_of_le_of_lt (Nat.le_trans (putF_le _ _ _) (Nat.succ_le_succ (putF_le _ _ _))) (by decide), k _ (fun x u hx hu => ?_) ⟨dx, _, upd_same, rfl, rfl, rfl, rfl⟩⟩
          rw [upd_ne hx]
          exact s2 _ _ (by rw [upd_ne hx, upd_ne hx]; exact hu)
      · have e : ((Nat.gcd t.natAbs b.natAbs : Nat) : Int) = gg t b := by unfold gg; rw [if_neg h2]
        rw [e]
        refine ⟨_, rfl, _, rfl, _, _, rfl, rfl, hw.1, _, rfl, a, _, dx, _, rfl, ha, T.cl_Ratio, T.na_Ratio_top, by decide, ?_⟩
        refine ⟨_, rfl, _, rfl, _, _, rfl, rfl, hw.2, _, rfl, a, _, dx, _, rfl, upd_same, T.cl_Ratio, T.na_Ratio_bottom, Nat.lt_of_le_of_lt (putF_le _ _ _) (by decide), ?_⟩
        refine ⟨_, rfl, a, _, dx, _, V.int (lowT t b), rfl, upd_same, T.cl_Ratio, T.na_Ratio_top, rfl, _, rfl, a, _, dx, _, V.int (lowB t b), rfl, upd_same, T.cl_Ratio, T.na_Ratio_bottom, rfl, lowT t b, lowB t b, rfl, ?_, ?_, fun H2 s2 => ?_⟩
        · exact Nat.lt_of_le_of_lt (lowT_le hb0) ht
        · exact Nat.lt_of_le_of_lt (lowB_le hb0) hb
        · refine ⟨_, rfl, a, _, dx, _, rfl, s2 _ _ upd_same, T.cl_Ratio, T.na_Ratio_text, Nat.lt_of_le_of_lt (Nat.le_trans (putF_le _ _ _) (Nat.succ_le_succ (putF_le _ _ _))) (by decide), k _ (fun x u hx hu => ?_) ⟨dx, _, upd_same, rfl, rfl, rfl, rfl⟩⟩
          rw [upd_ne hx]
          exact s2 _ _ (by rw [upd_ne hx, upd_ne hx]; exact hu)
end
end Km

set_option Elab.async false
set_option linter.all false
set_option maxRecDepth 100000
set_option maxHeartbeats 4000000
namespace Km
open PySem PySem.Spec PyProof.Rows L2 Lx Dg TL Lo
section
variable {K : PySem.W.Frag} {mg : Str → Option Value}
theorem iss_some {o : Option (Option Value)} (h : isSomeSome o = true) : ∃ x, o = some x := by
  cases o with
  | none => cases h
  | some x => exact ⟨x, rfl⟩
theorem Txt.e1 (T : Txt K mg) : PySem.W.selfFirst K (He.ga K "Ratio") = true ∧ opB K "__add__" "__radd__" = true ∧ opB K "__sub__" "__rsub__" = true ∧ opB K "__mul__" "__rmul__" = true := by
  obtain ⟨h, _⟩ := He.ba T.e
  obtain ⟨h1, h⟩ := He.ba h
  obtain ⟨h2, h⟩ := He.ba h
  exact ⟨h1, h2, He.ba h⟩
theorem Txt.e2 (T : Txt K mg) : PySem.W.subIn K (.type "int") (.ref (He.ga K "Ratio")) = some false ∧ PySem.W.subIn K (.type "str") (.ref (He.ga K "Ratio")) = some false := by
  obtain ⟨_, h⟩ := He.ba T.e
  obtain ⟨h, _⟩ := He.ba h
  obtain ⟨h1, h2⟩ := He.ba h
  exact ⟨of_decide_eq_true h1, of_decide_eq_true h2⟩
theorem Txt.tyR (T : Txt K mg) {H : Hp} {p dx : Addr} {fs : List (Str × V)} (h : H p = some (.ins (He.ga K "Ratio") dx fs)) : TyX K H (.ref p) (.ref (He.ga K "Ratio")) := by
  obtain ⟨_, e⟩ := He.ba T.e
  obtain ⟨_, e⟩ := He.ba e
  obtain ⟨e, _⟩ := He.ba e
  obtain ⟨h1, e⟩ := He.ba e
  obtain ⟨h2, e⟩ := He.ba e
  obtain ⟨h3, h4⟩ := He.ba e
  exact .base (.ins h T.cl_Ratio (He.eqO_ok h1) (He.eqO_ok h2) (of_decide_eq_true h3) (of_decide_eq_true h4))
theorem Txt.kR (T : Txt K mg) : PySem.W.kitOne K (.ref (He.ga K "Ratio")) (.ref (He.ga K "Ratio")) = some true ∧ PySem.W.kitOne K (.type "int") (.ref (He.ga K "Ratio")) = some false ∧ PySem.W.kitOne K (.type "str") (.ref (He.ga K "Ratio")) = some false := by
  obtain ⟨_, e⟩ := He.ba T.e
  obtain ⟨_, e⟩ := He.ba e
  obtain ⟨_, e⟩ := He.ba e
  obtain ⟨e, _⟩ := He.ba e
  obtain ⟨h1, e⟩ := He.ba e
  obtain ⟨h2, h3⟩ := He.ba e
  exact ⟨of_decide_eq_true h1, of_decide_eq_true h2, of_decide_eq_true h3⟩
theorem opB_own (T : Txt K mg) {op : Operator} {f : Addr} (h : opB K (dunder op.info.2) (dunderR op.info.2) = true) (m : Meth K (He.ga K "Ratio") (dunder op.info.2) f) : OwnB K (He.ga K "Ratio") f op := by
  obtain ⟨h1, h⟩ := He.ba h
  obtain ⟨h2, h3⟩ := He.ba h
  exact ⟨T.e1.1, m.at_, m.fn, He.eqO_ok h1, iss_some h2, iss_some h3, T.e2.1⟩
theorem Txt.o_add (T : Txt K mg) : OwnB K (He.ga K "Ratio") (He.ma K (He.ga K "Ratio") "__add__") .Add := opB_own T T.e1.2.1 T.me_Ratio__add
theorem Txt.o_sub (T : Txt K mg) : OwnB K (He.ga K "Ratio") (He.ma K (He.ga K "Ratio") "__sub__") .Sub := opB_own T T.e1.2.2.1 T.me_Ratio__sub
theorem Txt.o_mul (T : Txt K mg) : OwnB K (He.ga K "Ratio") (He.ma K (He.ga K "Ratio") "__mul__") .Mult := opB_own T T.e1.2.2.2 T.me_Ratio__mul
theorem Txt.o_eq (T : Txt K mg) : OwnE K (He.ga K "Ratio") (He.ma K (He.ga K "Ratio") "__eq__") := ⟨T.me_Ratio__eq.at_, T.me_Ratio__eq.fn, T.e2.1, T.e2.2⟩
theorem Txt.b_ini (T : Txt K mg) : L2.Binds K (fdAt K D_Ratio__init) ["self", "top", "bottom"] [] := by
  obtain ⟨ds, r, b⟩ := FunD.binds1 (ps := ["self", "top", "bottom"]) T.d_Ratio__init 3 1 (List.cons_ne_nil _ _) rfl fun _ _ _ _ _ _ _ us its h1 h2 => match us, its, h1, h2 with | [_, _, _], [_], _, _ => ⟨_, rfl, rfl⟩
  cases r
  exact b
theorem Txt.b_ini1 (T : Txt K mg) : ∃ ds, Vals [V.int 1] ds ∧ L2.Binds K (fdAt K D_Ratio__init) ["self", "top", "bottom"] ds :=
  FunD.binds1 (ps := ["self", "top", "bottom"]) T.d_Ratio__init 2 0 (List.cons_ne_nil _ _) rfl fun _ _ _ _ _ _ _ us its h1 h2 => match us, its, h1, h2 with | [_, _], [_], _, _ => ⟨_, rfl, rfl⟩
theorem Txt.b_iniK (T : Txt K mg) : KBn K (fdAt K D_Ratio__init) ["self", "top", "bottom"] 1 ["top", "bottom"] (fun us ws => us ++ ws) (fun vs zs => vs ++ zs) := by
  obtain ⟨its, h⟩ := FunD.kbindsD (ps := ["self", "top", "bottom"]) T.d_Ratio__init 1 ["top", "bottom"] (fun vs _ zs => vs ++ zs) (List.cons_ne_nil _ _) (fun r1 _ r3 => r1.append r3)
    (fun _ _ _ _ _ _ _ us its ws h1 h2 h3 => match us, its, ws, h1, h2, h3 with | [_], [_], [_, _], _, _, _ => ⟨_, rfl, rfl⟩)
  exact h
end
section
variable {P : Program} {w : World} {K : PySem.W.Frag} {mg : Str → Option Value} {base : Heap}
/-- a ratio, or a whole number -/
def ArgAt (K : PySem.W.Frag) (H : Hp) (v : V) (t b : Int) : Prop := (v = .int t ∧ b = 1) ∨ ∃ p, v = .ref p ∧ RatAt K H p t b
theorem RatAt.same {H H' : Hp} {p : Addr} {t b : Int} (r : RatAt K H p t b) (s : Same H H') : RatAt K H' p t b := by
  obtain ⟨dx, fs, h, q⟩ := r
  exact ⟨dx, fs, s _ _ h, q⟩
theorem ArgAt.same {H H' : Hp} {v : V} {t b : Int} (r : ArgAt K H v t b) (s : Same H H') : ArgAt K H' v t b := r.imp id fun ⟨p, e, q⟩ => ⟨p, e, q.same s⟩
def spPo (K : PySem.W.Frag) : Sp := fun vs H Q _ => ∃ v t b, vs = [v] ∧ ArgAt K H v t b ∧ ∀ q H', Same H H' → H q = none → H' q = some (.tup [.int t, .int b]) → Q (.ref q) H'
theorem ok_parts_of (T : Txt K mg) : FnOk P w K mg base CX0 1 (He.ga K "parts_of") (fdAt K D_parts_of) ["worth"] (spPo K) := by
  refine okN T.d_parts_of sc_parts_of (fun vs H Q E h => ?_) (fun cdv A outer s H vs Q E hr h => ?_)
  · obtain ⟨_, _, _, rfl, _⟩ := h
    rfl
  · obtain ⟨v, t, b, rfl, hv, k⟩ := h
    refine ⟨_, (pss_cons (ps_if (pt_val (pe_callB isi_k rfl T.n_isinstance (by decide +kernel) (pa_cons (pv 0) (pa_cons (pe_glob (v := .ref _) rfl T.m_Ratio rfl) pa_nil)))) (pss_one (ps_ret (pe_tup (pa_cons (pe_fldk (pv 0) rfl) (pa_cons (pe_fldk (pv 0) rfl) pa_nil))))) pss_nil)
        (pss_one (ps_ret (pe_tup (pa_cons (pv 0) (pa_cons pe_int pa_nil)))))), ?_⟩
    rcases hv with ⟨rfl, rfl⟩ | ⟨p, rfl, dx, fs, hp, f1, f2, f3⟩
    · refine ⟨_, rfl, _, _, _, _, false, rfl, .own _, .base (.int _), T.kR.2.1, false, rfl, ?_⟩
      exact ⟨_, rfl, szl (n := 2) (by decide), fun q nq => k q _ (same_mk (Same.refl H) nq) nq upd_same⟩
    · refine ⟨_, rfl, _, _, _, _, true, rfl, .own _, T.tyR hp, T.kR.1, true, rfl, ?_⟩
      exact ⟨_, rfl, p, _, dx, fs, _, rfl, hp, T.cl_Ratio, T.na_Ratio_top, f1, _, rfl, p, _, dx, fs, _, rfl, hp, T.cl_Ratio, T.na_Ratio_bottom, f2, szl (n := 2) (by decide), fun q nq => k q _ (same_mk (Same.refl H) nq) nq upd_same⟩
/-- what self op other gives: f of the parts of both -/
def spOp (K : PySem.W.Frag) (f g : Int → Int → Int → Int → Int) : Sp := fun vs H Q _ => ∃ p v a0 a1 b0 b1, vs = [.ref p, v] ∧ RatAt K H p a0 a1 ∧ ArgAt K H v b0 b1 ∧ (a1 ≠ 0 ∧ b1 ≠ 0) ∧ (a0.natAbs < 2 ^ 900 ∧ a1.natAbs < 2 ^ 900 ∧ b0.natAbs < 2 ^ 900 ∧ b1.natAbs < 2 ^ 900) ∧
  ∀ x H', Same H H' → H x = none → RatAt K H' x (lowT (f a0 a1 b0 b1) (g a0 a1 b0 b1)) (lowB (f a0 a1 b0 b1) (g a0 a1 b0 b1)) → Q (.ref x) H'
theorem m900 {i j : Int} (a : i.natAbs < 2 ^ 900) (b : j.natAbs < 2 ^ 900) : (i * j).natAbs < 2 ^ 1900 := by
  rw [Int.natAbs_mul]
  exact Nat.lt_of_le_of_lt (Nat.mul_le_mul (Nat.le_of_lt a) (Nat.le_of_lt b)) (by decide +kernel)
theorem m900b {i j : Int} (a : i.natAbs < 2 ^ 900) (b : j.natAbs < 2 ^ 900) : (i * j).natAbs ≤ 2 ^ 1800 := by
  rw [Int.natAbs_mul]
  exact Nat.le_trans (Nat.mul_le_mul (Nat.le_of_lt a) (Nat.le_of_lt b)) (by decide +kernel)
theorem s900 {i j k l : Int} (a : i.natAbs < 2 ^ 900) (b : j.natAbs < 2 ^ 900) (c : k.natAbs < 2 ^ 900) (d : l.natAbs < 2 ^ 900) : (i * j + k * l).natAbs < 2 ^ 1900 ∧ (i * j - k * l).natAbs < 2 ^ 1900 := by
  have x := m900b a b
  have y := m900b c d
  generalize i * j = u at *
  generalize k * l = v at *
  have z : 2 ^ 1800 + 2 ^ 1800 < 2 ^ 1900 := by decide +kernel
  generalize (2 : Nat) ^ 1800 = m at *
  generalize (2 : Nat) ^ 1900 = n at *
  omega
theorem mw {i j : Int} (a : i.natAbs < 2 ^ 900) (b : j.natAbs < 2 ^ 900) : CMulW i j := wide_mul a b (by decide) (by decide) (by decide)
theorem ok_Ratio__add (T : Txt K mg) : FnOk P w K mg base CX0 6 (He.ma K (He.ga K "Ratio") "__add__") (fdAt K D_Ratio__add) ["self", "other"] (spOp K (fun a0 a1 b0 b1 => a0 * b1 + b0 * a1) fun _ a1 _ b1 => a1 * b1) := by
  refine okN T.d_Ratio__add sc_Ratio__add (fun vs H Q E h => ?_) (fun cdv A outer s H vs Q E hr h => ?_)
  · obtain ⟨_, _, _, _, _, _, rfl, _⟩ := h
    rfl
  · obtain ⟨p, v, a0, a1, b0, b1, rfl, hp, hv, ⟨n1, n2⟩, ⟨s1, s2, s3, s4⟩, k⟩ := h
    refine ⟨_, (pss_cons (ps_asg (pe_call (ok_parts_of T) (hr.mono (by first | decide | omega)) rfl T.m_parts_of T.k_parts_of (T.b_parts_of) .nil pass0 (pa_cons (pv 1) pa_nil)) (pg_tupk (n := 2) rfl (pgs_cons (pg_name (i := 2) sc_Ratio__add.nd rfl (Or.inl rfl)) (pgs_cons (pg_name (i := 3) sc_Ratio__add.nd rfl (Or.inl rfl)) pgs_nil))))
        (pss_one (ps_ret (pe_make T.mk_Ratio (ok_Ratio__init T) (hr.mono (by decide)) rfl T.m_Ratio T.b_ini .nil pass0 (pa_cons (pe_op op_add (pe_op op_mulW (pe_fldk (pv 0) rfl) (pv 3)) (pe_op op_mulW (pv 2) (pe_fldk (pv 0) rfl))) (pa_cons (pe_op op_mulW (pe_fldk (pv 0) rfl) (pv 3)) pa_nil)))))), ?_⟩
    refine ⟨_, rfl, v, b0, b1, rfl, hv, fun q H1 e1 nq hq => ?_⟩
    obtain ⟨dx, fs, hp1, f1, f2, f3⟩ := hp.same e1
    refine ⟨q, _, rfl, SqT.of hq, rfl, _, _, rfl, _, _, rfl, rfl, ?_⟩
    refine ⟨_, rfl, p, _, dx, fs, _, rfl, hp1, T.cl_Ratio, T.na_Ratio_top, f1, _, rfl, _, _, rfl, rfl, (mw s1 s4), _, rfl, _, rfl, p, _, dx, fs, _, rfl, hp1, T.cl_Ratio, T.na_Ratio_bottom, f2, _, _, rfl, rfl, (mw s3 s2), _, _, rfl, rfl, _, rfl, p, _, dx, fs, _, rfl, hp1, T.cl_Ratio, T.na_Ratio_bottom, f2, _, rfl, _, _, rfl, rfl, (mw s2 s4), fun x dx' nx nd nxd => ?_⟩
    refine ⟨x, dx', _, _, rfl, upd_same, Int.mul_ne_zero n1 n2, (s900 s1 s4 s3 s2).1, m900 s2 s4, fun H' hk r => ⟨rfl, k x H' (Same.trans e1 (Same.made nx nd fun b o e ne => hk b o ne e)) (Same.free e1 nx) r⟩⟩
theorem ok_Ratio__sub (T : Txt K mg) : FnOk P w K mg base CX0 6 (He.ma K (He.ga K "Ratio") "__sub__") (fdAt K D_Ratio__sub) ["self", "other"] (spOp K (fun a0 a1 b0 b1 => a0 * b1 - b0 * a1) fun _ a1 _ b1 => a1 * b1) := by
  refine okN T.d_Ratio__sub sc_Ratio__sub (fun vs H Q E h => ?_) (fun cdv A outer s H vs Q E hr h => ?_)
  · obtain ⟨_, _, _, _, _, _, rfl, _⟩ := h
    rfl
  · obtain ⟨p, v, a0, a1, b0, b1, rfl, hp, hv, ⟨n1, n2⟩, ⟨s1, s2, s3, s4⟩, k⟩ := h
    refine ⟨_, (pss_cons (ps_asg (pe_call (ok_parts_of T) (hr.mono (by first | decide | omega)) rfl T.m_parts_of T.k_parts_of (T.b_parts_of) .nil pass0 (pa_cons (pv 1) pa_nil)) (pg_tupk (n := 2) rfl (pgs_cons (pg_name (i := 2) sc_Ratio__sub.nd rfl (Or.inl rfl)) (pgs_cons (pg_name (i := 3) sc_Ratio__sub.nd rfl (Or.inl rfl)) pgs_nil))))
        (pss_one (ps_ret (pe_make T.mk_Ratio (ok_Ratio__init T) (hr.mono (by decide)) rfl T.m_Ratio T.b_ini .nil pass0 (pa_cons (pe_op op_sub (pe_op op_mulW (pe_fldk (pv 0) rfl) (pv 3)) (pe_op op_mulW (pv 2) (pe_fldk (pv 0) rfl))) (pa_cons (pe_op op_mulW (pe_fldk (pv 0) rfl) (pv 3)) pa_nil)))))), ?_⟩
    refine ⟨_, rfl, v, b0, b1, rfl, hv, fun q H1 e1 nq hq => ?_⟩
    obtain ⟨dx, fs, hp1, f1, f2, f3⟩ := hp.same e1
    refine ⟨q, _, rfl, SqT.of hq, rfl, _, _, rfl, _, _, rfl, rfl, ?_⟩
    refine ⟨_, rfl, p, _, dx, fs, _, rfl, hp1, T.cl_Ratio, T.na_Ratio_top, f1, _, rfl, _, _, rfl, rfl, (mw s1 s4), _, rfl, _, rfl, p, _, dx, fs, _, rfl, hp1, T.cl_Ratio, T.na_Ratio_bottom, f2, _, _, rfl, rfl, (mw s3 s2), _, _, rfl, rfl, _, rfl, p, _, dx, fs, _, rfl, hp1, T.cl_Ratio, T.na_Ratio_bottom, f2, _, rfl, _, _, rfl, rfl, (mw s2 s4), fun x dx' nx nd nxd => ?_⟩
    refine ⟨x, dx', _, _, rfl, upd_same, Int.mul_ne_zero n1 n2, (s900 s1 s4 s3 s2).2, m900 s2 s4, fun H' hk r => ⟨rfl, k x H' (Same.trans e1 (Same.made nx nd fun b o e ne => hk b o ne e)) (Same.free e1 nx) r⟩⟩
theorem ok_Ratio__mul (T : Txt K mg) : FnOk P w K mg base CX0 6 (He.ma K (He.ga K "Ratio") "__mul__") (fdAt K D_Ratio__mul) ["self", "other"] (spOp K (fun a0 a1 b0 b1 => a0 * b0) fun _ a1 _ b1 => a1 * b1) := by
  refine okN T.d_Ratio__mul sc_Ratio__mul (fun vs H Q E h => ?_) (fun cdv A outer s H vs Q E hr h => ?_)
  · obtain ⟨_, _, _, _, _, _, rfl, _⟩ := h
    rfl
  · obtain ⟨p, v, a0, a1, b0, b1, rfl, hp, hv, ⟨n1, n2⟩, ⟨s1, s2, s3, s4⟩, k⟩ := h
    refine ⟨_, (pss_cons (ps_asg (pe_call (ok_parts_of T) (hr.mono (by first | decide | omega)) rfl T.m_parts_of T.k_parts_of (T.b_parts_of) .nil pass0 (pa_cons (pv 1) pa_nil)) (pg_tupk (n := 2) rfl (pgs_cons (pg_name (i := 2) sc_Ratio__mul.nd rfl (Or.inl rfl)) (pgs_cons (pg_name (i := 3) sc_Ratio__mul.nd rfl (Or.inl rfl)) pgs_nil))))
        (pss_one (ps_ret (pe_make T.mk_Ratio (ok_Ratio__init T) (hr.mono (by decide)) rfl T.m_Ratio T.b_ini .nil pass0 (pa_cons (pe_op op_mulW (pe_fldk (pv 0) rfl) (pv 2)) (pa_cons (pe_op op_mulW (pe_fldk (pv 0) rfl) (pv 3)) pa_nil)))))), ?_⟩
    refine ⟨_, rfl, v, b0, b1, rfl, hv, fun q H1 e1 nq hq => ?_⟩
    obtain ⟨dx, fs, hp1, f1, f2, f3⟩ := hp.same e1
    refine ⟨q, _, rfl, SqT.of hq, rfl, _, _, rfl, _, _, rfl, rfl, ?_⟩
    refine ⟨_, rfl, p, _, dx, fs, _, rfl, hp1, T.cl_Ratio, T.na_Ratio_top, f1, _, rfl, _, _, rfl, rfl, (mw s1 s3), _, rfl, p, _, dx, fs, _, rfl, hp1, T.cl_Ratio, T.na_Ratio_bottom, f2, _, rfl, _, _, rfl, rfl, (mw s2 s4), fun x dx' nx nd nxd => ?_⟩
    refine ⟨x, dx', _, _, rfl, upd_same, Int.mul_ne_zero n1 n2, m900 s1 s3, m900 s2 s4, fun H' hk r => ⟨rfl, k x H' (Same.trans e1 (Same.made nx nd fun b o e ne => hk b o ne e)) (Same.free e1 nx) r⟩⟩
def spLess (K : PySem.W.Frag) : Sp := fun vs H Q _ => ∃ p v a0 a1 b0 b1, vs = [.ref p, v] ∧ RatAt K H p a0 a1 ∧ ArgAt K H v b0 b1 ∧ (a0.natAbs < 2 ^ 900 ∧ a1.natAbs < 2 ^ 900 ∧ b0.natAbs < 2 ^ 900 ∧ b1.natAbs < 2 ^ 900) ∧ ∀ H', Same H H' → Q (.bl (decide (a0 * b1 < b0 * a1))) H'
theorem ok_Ratio_is_less (T : Txt K mg) : FnOk P w K mg base CX0 3 (He.ma K (He.ga K "Ratio") "is_less") (fdAt K D_Ratio_is_less) ["self", "other"] (spLess K) := by
  refine okN T.d_Ratio_is_less sc_Ratio_is_less (fun vs H Q E h => ?_) (fun cdv A outer s H vs Q E hr h => ?_)
  · obtain ⟨_, _, _, _, _, _, rfl, _⟩ := h
    rfl
  · obtain ⟨p, v, a0, a1, b0, b1, rfl, hp, hv, ⟨s1, s2, s3, s4⟩, k⟩ := h
    refine ⟨_, (pss_cons (ps_asg (pe_call (ok_parts_of T) (hr.mono (by first | decide | omega)) rfl T.m_parts_of T.k_parts_of (T.b_parts_of) .nil pass0 (pa_cons (pv 1) pa_nil)) (pg_tupk (n := 2) rfl (pgs_cons (pg_name (i := 2) sc_Ratio_is_less.nd rfl (Or.inl rfl)) (pgs_cons (pg_name (i := 3) sc_Ratio_is_less.nd rfl (Or.inl rfl)) pgs_nil))))
        (pss_one (ps_ret (pe_cmpR op_lt (pe_op op_mulW (pe_fldk (pv 0) rfl) (pv 3)) (pe_op op_mulW (pv 2) (pe_fldk (pv 0) rfl)) (nomark _))))), ?_⟩
    refine ⟨_, rfl, v, b0, b1, rfl, hv, fun q H1 e1 nq hq => ?_⟩
    obtain ⟨dx, fs, hp1, f1, f2, f3⟩ := hp.same e1
    refine ⟨q, _, rfl, SqT.of hq, rfl, _, _, rfl, _, _, rfl, rfl, ?_⟩
    exact ⟨_, rfl, p, _, dx, fs, _, rfl, hp1, T.cl_Ratio, T.na_Ratio_top, f1, _, rfl, _, _, rfl, rfl, (mw s1 s4), _, rfl, _, rfl, p, _, dx, fs, _, rfl, hp1, T.cl_Ratio, T.na_Ratio_bottom, f2, _, _, rfl, rfl, (mw s3 s2), _, _, rfl, rfl, k H1 e1⟩
def spEq (K : PySem.W.Frag) : Sp := fun vs H Q _ => ∃ p v a0 a1, vs = [.ref p, v] ∧ RatAt K H p a0 a1 ∧ ((∃ q b0 b1, v = .ref q ∧ RatAt K H q b0 b1 ∧ Q (.bl (decide (a0 = b0 ∧ a1 = b1))) H) ∨ (((∃ i, v = .int i) ∨ ∃ z, v = .str z) ∧ Q (.bl false) H))
theorem ok_Ratio__eq (T : Txt K mg) : FnOk P w K mg base CX0 1 (He.ma K (He.ga K "Ratio") "__eq__") (fdAt K D_Ratio__eq) ["self", "other"] (spEq K) := by
  refine okN T.d_Ratio__eq sc_Ratio__eq (fun vs H Q E h => ?_) (fun cdv A outer s H vs Q E hr h => ?_)
  · obtain ⟨_, _, _, _, rfl, _⟩ := h
    rfl
  · obtain ⟨p, v, a0, a1, rfl, ⟨dx, fs, hp1, f1, f2, f3⟩, hv⟩ := h
    refine ⟨_, (pss_one (ps_ret (pe_and (pe_callB isi_k rfl T.n_isinstance (by decide +kernel) (pa_cons (pv 1) (pa_cons (pe_glob (v := .ref _) rfl T.m_Ratio rfl) pa_nil))) (pe_and (pe_cmpR op_eqI (pe_fldk (pv 0) rfl) (pe_fldk (pv 1) rfl) (nomark _)) (pe_one (pe_cmpR op_eqI (pe_fldk (pv 0) rfl) (pe_fldk (pv 1) rfl) (nomark _))))))), ?_⟩
    rcases hv with ⟨q, b0, b1, rfl, ⟨dy, gs, hq, g1, g2, g3⟩, k⟩ | ⟨⟨i, rfl⟩ | ⟨z, rfl⟩, k⟩
    · refine ⟨_, rfl, _, _, _, _, true, rfl, .own _, T.tyR hq, T.kR.1, ?_⟩
      refine ⟨true, rfl, _, rfl, p, _, dx, fs, _, rfl, hp1, T.cl_Ratio, T.na_Ratio_top, f1, _, rfl, q, _, dy, gs, _, rfl, hq, T.cl_Ratio, T.na_Ratio_top, g1, _, _, rfl, rfl, _, rfl, iteD (fun e => ?_) (fun e => ?_)⟩
      · refine ⟨_, rfl, p, _, dx, fs, _, rfl, hp1, T.cl_Ratio, T.na_Ratio_bottom, f2, _, rfl, q, _, dy, gs, _, rfl, hq, T.cl_Ratio, T.na_Ratio_bottom, g2, _, _, rfl, rfl, ?_⟩
        show Q (.bl (decide (a1 = b1))) H
        have z : decide (a0 = b0 ∧ a1 = b1) = decide (a1 = b1) := by simp [e]
        rw [← z]
        exact k
      · show Q (.bl false) H
        have z : decide (a0 = b0 ∧ a1 = b1) = false := by simp [e]
        rw [← z]
        exact k
    · refine ⟨_, rfl, _, _, _, _, false, rfl, .own _, .base (.int _), T.kR.2.1, ?_⟩
      exact ⟨false, rfl, k⟩
    · refine ⟨_, rfl, _, _, _, _, false, rfl, .own _, .base (.str _), T.kR.2.2, ?_⟩
      exact ⟨false, rfl, k⟩
end
end Km

set_option Elab.async false
set_option linter.all false
set_option maxRecDepth 100000
set_option maxHeartbeats 4000000
namespace Km
open PySem PySem.Spec PyProof.Rows L2 Lx Dg TL Lo
section
variable {P : Program} {w : World} {K : PySem.W.Frag} {mg : Str → Option Value} {base : Heap}
abbrev OO (K : PySem.W.Frag) : Addr := He.ga K "OutOf"
def spOut (K : PySem.W.Frag) : Sp := fun vs H Q _ => ∃ a z, vs = [.ref a, .str z] ∧ z.length ≤ 900 ∧ H a = some (exo a (OO K) none) ∧ ∀ dx, H dx = none → dx ≠ a → Q .non (upd (upd H dx (exd dx [("what", .str z)])) a (exo a (OO K) (some dx)))
theorem ok_OutOf (hP : Pr P) (T : Txt K mg) {CX : CXT} : ∃ fd, FnOk P w K mg base CX 1 (iniA K "OutOf") fd ["self", "what"] (spOut K) ∧ L2.Binds K fd ["self", "what"] [] := by
  have O := T.oo hP
  obtain ⟨fd, F⟩ := O.f
  refine ⟨fd, ?_, ?_⟩
  · refine SupF.ok (N := ["self", "what", "__class__"]) F O.c rfl rfl (NdefX.nscope_by (by decide +kernel)) (by decide +kernel) (fun vs H Q E h => ?_) (hb := fun cc c A outer s H vs Q E X hX hr h => ?_)
    · obtain ⟨_, _, rfl, _⟩ := h
      rfl
    · obtain ⟨a, z, rfl, hz, ha, k⟩ := h
      subst hX
      refine ⟨a, _, rfl, ha, _, _, pa_cons (pe_joined (.cons pe_str (.cons (pe_fmt (pv 1)) .nil))) pa_nil, pss_one (ps_ost (pv 0) (pv 1)), ?_⟩
      have l0 : ("there is no such " : Str).length = 17 := by decide +kernel
      have l1 : (Str.empty ++ ("there is no such " : Str)).length ≤ 100 := by decide +kernel
      refine ⟨_, rfl, szl (Nat.le_trans l1 (by decide)), _, rfl, .inl ⟨z, rfl, szl (Nat.le_trans hz (by decide)), z, rfl, ?_, Nat.le_trans (Nat.le_refl 1) (by decide), ha, _, rfl, _, rfl, a, _, rfl, O.c.o, O.a _ (List.mem_singleton.mpr rfl), .inl ⟨ha, fun dx n ne => k dx n ne⟩⟩⟩
      rw [Str.length_append]
      exact szl (Nat.le_trans (Nat.add_le_add l1 hz) (by decide))
  · obtain ⟨oc, od, doc, pm, ct, cc, c, osl, rfl, _⟩ := F.ex
    exact .all fun us hl => match us, hl with | [_, _], _ => rfl
/-- Ratio.__init__ at a bottom of 0: an OutOf flies -/
def ErrE (K : PySem.W.Frag) (H : Hp) (a : Addr) (E : XK) : Prop := ∀ d H', (∀ x u, H x = some u → H' x = some u) → H d = none → H' d = some (.xd [("what", .str "fraction")]) → E (.ref (OO K)) (some d) H'
def spIni0 (K : PySem.W.Frag) : Sp := fun vs H _ E => ∃ (a dx : Addr) (t : Int), vs = [.ref a, .int t, .int 0] ∧ ErrE K H a E
theorem out_Ratio__init (hP : Pr P) (T : Txt K mg) : FnOk P w K mg base (L2N.CX P w) 4 (He.ma K (He.ga K "Ratio") "__init__") (fdAt K D_Ratio__init) ["self", "top", "bottom"] (spIni0 K) := by
  refine T.d_Ratio__init.ok sc_Ratio__init (fun vs H Q E h => ?_) (fun cdv A outer s H vs Q E hr h => ?_)
  · obtain ⟨_, _, _, rfl, _⟩ := h
    rfl
  · obtain ⟨a, dx, t, rfl, k⟩ := h
    have O := T.oo hP
    obtain ⟨fd, F, B⟩ := ok_OutOf (w := w) (base := base) (CX := CX0) hP T
    have tk := L2N.takes_of (X := cxOf (L2N.CX P w) P w K mg base N_Ratio__init D_Ratio__init.qual D_Ratio__init.scope (He.ma K (He.ga K "Ratio") "__init__") cdv A outer s H E) (E := E) rfl rfl rfl rfl
    refine ⟨_, pss_cons (ps_if (pt_cmpR op_eqI (pv 2) pe_int (nomark _)) (pss_one (L2N.ps_raise rfl tk (pmk_oexN O.c.o O.i O.t F (hr.mono (by decide)) B pass0 rfl T.m_OutOf (pa_cons pe_str pa_nil)))) pss_nil) pss_absurd, ?_⟩
    refine ⟨_, rfl, _, _, rfl, rfl, _, rfl, iteD (fun _ => ?_) (fun h => absurd rfl h)⟩
    refine ⟨Nat.le_trans (Nat.le_refl 1) (by decide), fun e ne => ⟨e, "fraction", rfl, by decide +kernel, upd_same, fun d nd de => ?_⟩⟩
    rw [upd_ne de] at nd
    refine ⟨rfl, d, _, upd_same, by rw [upd_ne de, upd_same], nd, k d _ (fun x u hx => ?_) nd upd_same⟩
    rw [upd_ne (ne_of_none hx nd), del_ne (ne_of_none hx ne), upd_ne (ne_of_none hx ne), upd_ne (ne_of_none hx nd), upd_ne (ne_of_none hx ne)]
    exact hx
end
end Km

set_option Elab.async false
set_option linter.all false
set_option maxRecDepth 100000
set_option maxHeartbeats 4000000
namespace Lx
open PySem PySem.Spec PyProof.Rows L2
theorem loop_zip {K : PySem.W.Frag} {a b : Addr} {xs ys : List V} {B : V → Hp → (Hp → Prop) → Prop} {Qd : Hp → Prop} {H0 : Hp} (Pv : Nat → Hp → Prop) (hl : xs.length = ys.length) (h0 : Pv 0 H0) (hq : ∀ i H, i ≤ xs.length → Pv i H → SqL K H a xs ∧ SqL K H b ys)
    (hs : ∀ i x y T H, xs[i]? = some x → ys[i]? = some y → Pv i H → H T = none → B (.ref T) (upd H T (.tup [x, y])) (Pv (i + 1))) (hd : ∀ H, Pv xs.length H → Qd H) :
    ∃ W : Nat → Nat → Hp → Prop, (∃ m, W 0 m H0) ∧ ∀ i m H, W i m H → ((Itz K a b).stop i H ∧ Qd H) ∨ ((Itz K a b).go i H ∧ ∃ Nx : Hp → Prop, (∀ H', Nx H' → ∃ m', m' < m ∧ W (i + 1) m' H') ∧ ∀ x H', (Itz K a b).yld i H x H' → B x H' Nx) := by
  refine ⟨fun i m H => m = xs.length - i ∧ i ≤ xs.length ∧ Pv i H, ⟨xs.length, rfl, Nat.zero_le _, h0⟩, ?_⟩
  rintro i m H ⟨rfl, hi, p⟩
  obtain ⟨q1, q2⟩ := hq i H hi p
  by_cases hlt : i < xs.length
  · have hlt2 : i < ys.length := by omega
    refine .inr ⟨⟨xs, ys, _, _, q1, q2, List.getElem?_eq_getElem hlt, List.getElem?_eq_getElem hlt2⟩, Pv (i + 1), fun H' p' => ⟨xs.length - (i + 1), by omega, rfl, hlt, p'⟩, fun v H' y => ?_⟩
    obtain ⟨T, x', y', rfl, hT, rfl, f1, f2⟩ := y
    exact hs i x' y' T H (f1 xs q1) (f2 ys q2) p hT
  · have e : i = xs.length := by omega
    subst e
    exact .inl ⟨⟨xs, ys, q1, q2, Or.inl (Nat.le_refl _)⟩, hd H p⟩
end Lx
namespace Km
open PySem PySem.Spec PyProof.Rows L2 Lx Dg TL Lo
section
variable {P : Program} {w : World} {K : PySem.W.Frag} {mg : Str → Option Value} {base : Heap}
def w1 : Str := "ValueError LookupError RuntimeError BadRota BadWorld BadTree BadPlay BadBook BadCourse BadDie BadMill BadRoster"
def w2 : Str := " BadScript NoTree OutOf TooMany NoSuch Ended"
def clsW : List Str := ["ValueError", "LookupError", "RuntimeError", "BadRota", "BadWorld", "BadTree", "BadPlay", "BadBook", "BadCourse", "BadDie", "BadMill", "BadRoster", "BadScript", "NoTree", "OutOf", "TooMany", "NoSuch", "Ended"]
theorem clsLen : w1.length + w2.length ≤ 300 := by decide +kernel
theorem clsSplit : Txt.split (w1 ++ w2) " " = clsW := by decide +kernel
def clsF : List Bool := [true, false, false, false, false, false, false, false, false, false, false, false, false, false, true, false, false, false]
/-- what is gathered behind i turns -/
def clsR (i : Nat) : List V := (((clsW.zip clsF).take i).filter (·.2)).map fun p => .str p.1
theorem clsR_len (i : Nat) : (clsR i).length ≤ 18 := by
  unfold clsR
  rw [List.length_map]
  exact Nat.le_trans (List.length_filter_le _ _) (by rw [List.length_take]; exact Nat.min_le_right _ 18)
theorem clsR_succ {i : Nat} {wd : Str} {f : Bool} (h1 : clsW[i]? = some wd) (h2 : clsF[i]? = some f) : clsR (i + 1) = clsR i ++ if f = true then [V.str wd] else [] := by
  have z : (clsW.zip clsF)[i]? = some (wd, f) := by rw [List.getElem?_zip_eq_some]; exact ⟨h1, h2⟩
  unfold clsR
  rw [List.take_add_one, z, List.filter_append, List.map_append]
  cases f <;> rfl
theorem map_get {α β : Type} {g : α → β} {l : List α} {i : Nat} {y : β} (h : (l.map g)[i]? = some y) : ∃ x, l[i]? = some x ∧ g x = y := by
  rw [List.getElem?_map] at h
  cases e : l[i]? with
  | none => rw [e] at h; cases h
  | some x => rw [e] at h; exact ⟨x, rfl, Option.some.inj h⟩
abbrev whatF : List (Str × V) := [("what", .str "fraction")]
def spCls (K : PySem.W.Frag) : Addr × Obj → List V → Hp → VK → Prop := fun p vs H Q => ∃ d, vs = [.ref p.1] ∧ Zc (.ref (OO K)) (some d) p.2 ∧ (∃ ws, p.2.data = .fields ws) ∧ H d = some (.xd whatF) ∧ ∀ q H', Same H H' → H q = none → H' q = some (.lst [.str "ValueError", .str "OutOf"]) → Q (.ref q) H'
theorem ok_law_classes (hP : Pr P) (T : Txt K mg) : FnP P w K mg base 3 (He.ga K "_law_classes") (fdAt K D_law_classes) ["e"] (spCls K) := by
  refine fnP_of T.d_law_classes sc_law_classes (fun p vs H Q h => ?_) (fun cdv A outer s H vs Q p hot hr h => ?_)
  · obtain ⟨_, rfl, _⟩ := h
    rfl
  · obtain ⟨d, rfl, hz, hf, hd, k⟩ := h
    have O := T.oo hP
    have hp : p ∈ (L2H.cxH CX0 P w K mg base N_law_classes D_law_classes.qual D_law_classes.scope (He.ga K "_law_classes") cdv A outer s H (fun _ _ _ => False) p).nox.pn := List.mem_singleton.mpr rfl
    refine ⟨_, (pss_cons (ps_set (i := 1) sc_law_classes.nd rfl (Or.inl rfl) (pe_lst (pa_cons (pe_callB (call_isP (d := some d) (fs := [("what", .str "fraction")]) O.e hp hz hf) rfl T.n_isinstance (by decide +kernel) (pa_cons (pv 0) (pa_cons (pe_bltn (v := .ty "ValueError") rfl T.n_ValueError (by decide +kernel) rfl) pa_nil))) (pa_cons (pe_callB (call_isP (d := some d) (fs := [("what", .str "fraction")]) O.e hp hz hf) rfl T.n_isinstance (by decide +kernel) (pa_cons (pv 0) (pa_cons (pe_bltn (v := .ty "LookupError") rfl T.n_LookupError (by decide +kernel) rfl) pa_nil))) (pa_cons (pe_callB (call_isP (d := some d) (fs := [("what", .str "fraction")]) O.e hp hz hf) rfl T.n_isinstance (by decide +kernel) (pa_cons (pv 0) (pa_cons (pe_bltn (v := .ty "RuntimeError") rfl T.n_RuntimeError (by decide +kernel) rfl) pa_nil))) (pa_cons (pe_callB (call_isP (d := some d) (fs := [("what", .str "fraction")]) O.e hp hz hf) rfl T.n_isinstance (by decide +kernel) (pa_cons (pv 0) (pa_cons (pe_glob (v := .ref _) rfl T.m_BadRota rfl) pa_nil))) pa_nil))))))
        (pss_cons (ps_set (i := 1) sc_law_classes.nd rfl (Or.inl rfl) (pe_op op_cat (pv 1) (pe_lst (pa_cons (pe_callB (call_isP (d := some d) (fs := [("what", .str "fraction")]) O.e hp hz hf) rfl T.n_isinstance (by decide +kernel) (pa_cons (pv 0) (pa_cons (pe_glob (v := .ref _) rfl T.m_BadWorld rfl) pa_nil))) (pa_cons (pe_callB (call_isP (d := some d) (fs := [("what", .str "fraction")]) O.e hp hz hf) rfl T.n_isinstance (by decide +kernel) (pa_cons (pv 0) (pa_cons (pe_glob (v := .ref _) rfl T.m_BadTree rfl) pa_nil))) (pa_cons (pe_callB (call_isP (d := some d) (fs := [("what", .str "fraction")]) O.e hp hz hf) rfl T.n_isinstance (by decide +kernel) (pa_cons (pv 0) (pa_cons (pe_glob (v := .ref _) rfl T.m_BadPlay rfl) pa_nil))) (pa_cons (pe_callB (call_isP (d := some d) (fs := [("what", .str "fraction")]) O.e hp hz hf) rfl T.n_isinstance (by decide +kernel) (pa_cons (pv 0) (pa_cons (pe_glob (v := .ref _) rfl T.m_BadBook rfl) pa_nil))) pa_nil)))))))
        (pss_cons (ps_set (i := 1) sc_law_classes.nd rfl (Or.inl rfl) (pe_op op_cat (pv 1) (pe_lst (pa_cons (pe_callB (call_isP (d := some d) (fs := [("what", .str "fraction")]) O.e hp hz hf) rfl T.n_isinstance (by decide +kernel) (pa_cons (pv 0) (pa_cons (pe_glob (v := .ref _) rfl T.m_BadCourse rfl) pa_nil))) (pa_cons (pe_callB (call_isP (d := some d) (fs := [("what", .str "fraction")]) O.e hp hz hf) rfl T.n_isinstance (by decide +kernel) (pa_cons (pv 0) (pa_cons (pe_glob (v := .ref _) rfl T.m_BadDie rfl) pa_nil))) (pa_cons (pe_callB (call_isP (d := some d) (fs := [("what", .str "fraction")]) O.e hp hz hf) rfl T.n_isinstance (by decide +kernel) (pa_cons (pv 0) (pa_cons (pe_glob (v := .ref _) rfl T.m_BadMill rfl) pa_nil))) (pa_cons (pe_callB (call_isP (d := some d) (fs := [("what", .str "fraction")]) O.e hp hz hf) rfl T.n_isinstance (by decide +kernel) (pa_cons (pv 0) (pa_cons (pe_glob (v := .ref _) rfl T.m_BadRoster rfl) pa_nil))) pa_nil)))))))
        (pss_cons (ps_set (i := 1) sc_law_classes.nd rfl (Or.inl rfl) (pe_op op_cat (pv 1) (pe_lst (pa_cons (pe_callB (call_isP (d := some d) (fs := [("what", .str "fraction")]) O.e hp hz hf) rfl T.n_isinstance (by decide +kernel) (pa_cons (pv 0) (pa_cons (pe_glob (v := .ref _) rfl T.m_BadScript rfl) pa_nil))) (pa_cons (pe_callB (call_isP (d := some d) (fs := [("what", .str "fraction")]) O.e hp hz hf) rfl T.n_isinstance (by decide +kernel) (pa_cons (pv 0) (pa_cons (pe_glob (v := .ref _) rfl T.m_NoTree rfl) pa_nil))) (pa_cons (pe_callB (call_isP (d := some d) (fs := [("what", .str "fraction")]) O.e hp hz hf) rfl T.n_isinstance (by decide +kernel) (pa_cons (pv 0) (pa_cons (pe_glob (v := .ref _) rfl T.m_OutOf rfl) pa_nil))) (pa_cons (pe_callB (call_isP (d := some d) (fs := [("what", .str "fraction")]) O.e hp hz hf) rfl T.n_isinstance (by decide +kernel) (pa_cons (pv 0) (pa_cons (pe_glob (v := .ref _) rfl T.m_TooMany rfl) pa_nil))) pa_nil)))))))
        (pss_cons (ps_set (i := 1) sc_law_classes.nd rfl (Or.inl rfl) (pe_op op_cat (pv 1) (pe_lst (pa_cons (pe_callB (call_isP (d := some d) (fs := [("what", .str "fraction")]) O.e hp hz hf) rfl T.n_isinstance (by decide +kernel) (pa_cons (pv 0) (pa_cons (pe_glob (v := .ref _) rfl T.m_NoSuch rfl) pa_nil))) (pa_cons (pe_callB (call_isP (d := some d) (fs := [("what", .str "fraction")]) O.e hp hz hf) rfl T.n_isinstance (by decide +kernel) (pa_cons (pv 0) (pa_cons (pe_glob (v := .ref _) rfl T.m_Ended rfl) pa_nil))) pa_nil)))))
        (pss_cons (ps_set (i := 2) sc_law_classes.nd rfl (Or.inl rfl) pe_str)
        (pss_cons (ps_set (i := 2) sc_law_classes.nd rfl (Or.inl rfl) (pe_op op_add_str (pv 2) pe_str))
        (pss_one (ps_ret (pe_lcH (own := [("word", 3), ("flag", 4)]) hot hp sc_law_classes.nd (piB_zip rfl T.n_zip (pa_cons (pe_bmk PySem.F.plainAttrs_str PySem.F.slot_str_split PySem.F.type_str_split mt_split (pv 2) (pa_cons pe_str pa_nil)) (pa_cons (pv 1) pa_nil))) (blkOk_by (N := N_law_classes) (sc := defScope s_law_classes) (by decide +kernel)) (fun _ _ _ _ _ hB => ⟨by exact (pg_tupH (n := 2) hB (pgs_cons (pg_name (i := 3) sc_law_classes.nd rfl (Or.inl rfl)) (pgs_cons (pg_name (i := 4) sc_law_classes.nd rfl (Or.inl rfl)) pgs_nil))), by exact (pts_one (pt_val (pv 4))), by exact (pv 3)⟩))))))))))), ?_⟩
    refine ⟨_, rfl, _, _, true, d, rfl, fun _ r => r, T.kit (List.mem_of_getElem? (i := 0) rfl), rfl, hd, _, rfl, _, _, false, d, rfl, fun _ r => r, T.kit (List.mem_of_getElem? (i := 1) rfl), rfl, hd, _, rfl, _, _, false, d, rfl, fun _ r => r, T.kit (List.mem_of_getElem? (i := 2) rfl), rfl, hd, _, rfl, _, _, false, d, rfl, fun _ r => r, T.kit (List.mem_of_getElem? (i := 3) rfl), rfl, hd, szl (n := 4) (by decide), fun l0 f0 => ?_⟩
    have s0 := same_mk (o := .lst [V.bl true, V.bl false, V.bl false, V.bl false]) (Same.refl H) f0
    have h0 : upd H l0 (.lst [V.bl true, V.bl false, V.bl false, V.bl false]) l0 = _ := upd_same
    generalize upd H l0 _ = G0 at s0 h0 ⊢
    refine ⟨_, rfl, _, rfl, _, _, false, d, rfl, fun _ r => r, T.kit (List.mem_of_getElem? (i := 4) rfl), rfl, s0 _ _ hd, _, rfl, _, _, false, d, rfl, fun _ r => r, T.kit (List.mem_of_getElem? (i := 5) rfl), rfl, s0 _ _ hd, _, rfl, _, _, false, d, rfl, fun _ r => r, T.kit (List.mem_of_getElem? (i := 6) rfl), rfl, s0 _ _ hd, _, rfl, _, _, false, d, rfl, fun _ r => r, T.kit (List.mem_of_getElem? (i := 7) rfl), rfl, s0 _ _ hd, szl (n := 4) (by decide), fun t1 g1 => ?_⟩
    have n1 : l0 ≠ t1 := ne_of_none h0 g1
    refine ⟨l0, t1, _, _, rfl, rfl, (upd_ne n1).trans h0, upd_same, szl (n := 8) (by decide), fun l1 f1 => ?_⟩
    have s1 := same_mk (o := .lst ([V.bl true, V.bl false, V.bl false, V.bl false] ++ [V.bl false, V.bl false, V.bl false, V.bl false])) (same_mk (o := .lst [V.bl false, V.bl false, V.bl false, V.bl false]) s0 g1) f1
    have h1 : upd (upd G0 t1 (.lst [V.bl false, V.bl false, V.bl false, V.bl false])) l1 (.lst ([V.bl true, V.bl false, V.bl false, V.bl false] ++ [V.bl false, V.bl false, V.bl false, V.bl false])) l1 = some (.lst [V.bl true, V.bl false, V.bl false, V.bl false, V.bl false, V.bl false, V.bl false, V.bl false]) := upd_same
    generalize upd (upd G0 t1 _) l1 _ = G1 at s1 h1 ⊢
    refine ⟨_, rfl, _, rfl, _, _, false, d, rfl, fun _ r => r, T.kit (List.mem_of_getElem? (i := 8) rfl), rfl, s1 _ _ hd, _, rfl, _, _, false, d, rfl, fun _ r => r, T.kit (List.mem_of_getElem? (i := 9) rfl), rfl, s1 _ _ hd, _, rfl, _, _, false, d, rfl, fun _ r => r, T.kit (List.mem_of_getElem? (i := 10) rfl), rfl, s1 _ _ hd, _, rfl, _, _, false, d, rfl, fun _ r => r, T.kit (List.mem_of_getElem? (i := 11) rfl), rfl, s1 _ _ hd, szl (n := 4) (by decide), fun t2 g2 => ?_⟩
    have n2 : l1 ≠ t2 := ne_of_none h1 g2
    refine ⟨l1, t2, _, _, rfl, rfl, (upd_ne n2).trans h1, upd_same, szl (n := 12) (by decide), fun l2 f2 => ?_⟩
    have s2 := same_mk (o := .lst ([V.bl true, V.bl false, V.bl false, V.bl false, V.bl false, V.bl false, V.bl false, V.bl false] ++ [V.bl false, V.bl false, V.bl false, V.bl false])) (same_mk (o := .lst [V.bl false, V.bl false, V.bl false, V.bl false]) s1 g2) f2
    have h2 : upd (upd G1 t2 (.lst [V.bl false, V.bl false, V.bl false, V.bl false])) l2 (.lst ([V.bl true, V.bl false, V.bl false, V.bl false, V.bl false, V.bl false, V.bl false, V.bl false] ++ [V.bl false, V.bl false, V.bl false, V.bl false])) l2 = some (.lst [V.bl true, V.bl false, V.bl false, V.bl false, V.bl false, V.bl false, V.bl false, V.bl false, V.bl false, V.bl false, V.bl false, V.bl false]) := upd_same
    generalize upd (upd G1 t2 _) l2 _ = G2 at s2 h2 ⊢
    refine ⟨_, rfl, _, rfl, _, _, false, d, rfl, fun _ r => r, T.kit (List.mem_of_getElem? (i := 12) rfl), rfl, s2 _ _ hd, _, rfl, _, _, false, d, rfl, fun _ r => r, T.kit (List.mem_of_getElem? (i := 13) rfl), rfl, s2 _ _ hd, _, rfl, _, _, true, d, rfl, fun _ r => r, T.kit (List.mem_of_getElem? (i := 17) rfl), rfl, s2 _ _ hd, _, rfl, _, _, false, d, rfl, fun _ r => r, T.kit (List.mem_of_getElem? (i := 14) rfl), rfl, s2 _ _ hd, szl (n := 4) (by decide), fun t3 g3 => ?_⟩
    have n3 : l2 ≠ t3 := ne_of_none h2 g3
    refine ⟨l2, t3, _, _, rfl, rfl, (upd_ne n3).trans h2, upd_same, szl (n := 16) (by decide), fun l3 f3 => ?_⟩
    have s3 := same_mk (o := .lst ([V.bl true, V.bl false, V.bl false, V.bl false, V.bl false, V.bl false, V.bl false, V.bl false, V.bl false, V.bl false, V.bl false, V.bl false] ++ [V.bl false, V.bl false, V.bl true, V.bl false])) (same_mk (o := .lst [V.bl false, V.bl false, V.bl true, V.bl false]) s2 g3) f3
    have h3 : upd (upd G2 t3 (.lst [V.bl false, V.bl false, V.bl true, V.bl false])) l3 (.lst ([V.bl true, V.bl false, V.bl false, V.bl false, V.bl false, V.bl false, V.bl false, V.bl false, V.bl false, V.bl false, V.bl false, V.bl false] ++ [V.bl false, V.bl false, V.bl true, V.bl false])) l3 = some (.lst [V.bl true, V.bl false, V.bl false, V.bl false, V.bl false, V.bl false, V.bl false, V.bl false, V.bl false, V.bl false, V.bl false, V.bl false, V.bl false, V.bl false, V.bl true, V.bl false]) := upd_same
    generalize upd (upd G2 t3 _) l3 _ = G3 at s3 h3 ⊢
    refine ⟨_, rfl, _, rfl, _, _, false, d, rfl, fun _ r => r, T.kit (List.mem_of_getElem? (i := 15) rfl), rfl, s3 _ _ hd, _, rfl, _, _, false, d, rfl, fun _ r => r, T.kit (List.mem_of_getElem? (i := 16) rfl), rfl, s3 _ _ hd, szl (n := 2) (by decide), fun t4 g4 => ?_⟩
    have n4 : l3 ≠ t4 := ne_of_none h3 g4
    refine ⟨l3, t4, _, _, rfl, rfl, (upd_ne n4).trans h3, upd_same, szl (n := 18) (by decide), fun l4 f4 => ?_⟩
    have s4 := same_mk (o := .lst ([V.bl true, V.bl false, V.bl false, V.bl false, V.bl false, V.bl false, V.bl false, V.bl false, V.bl false, V.bl false, V.bl false, V.bl false, V.bl false, V.bl false, V.bl true, V.bl false] ++ [V.bl false, V.bl false])) (same_mk (o := .lst [V.bl false, V.bl false]) s3 g4) f4
    have h4 : upd (upd G3 t4 (.lst [V.bl false, V.bl false])) l4 (.lst ([V.bl true, V.bl false, V.bl false, V.bl false, V.bl false, V.bl false, V.bl false, V.bl false, V.bl false, V.bl false, V.bl false, V.bl false, V.bl false, V.bl false, V.bl true, V.bl false] ++ [V.bl false, V.bl false])) l4 = some (.lst [V.bl true, V.bl false, V.bl false, V.bl false, V.bl false, V.bl false, V.bl false, V.bl false, V.bl false, V.bl false, V.bl false, V.bl false, V.bl false, V.bl false, V.bl true, V.bl false, V.bl false, V.bl false]) := upd_same
    generalize upd (upd G3 t4 _) l4 _ = G4 at s4 h4 ⊢
    refine ⟨_, rfl, _, _, rfl, rfl, szl (Nat.le_trans clsLen (by decide)), _, rfl, rfl, w1 ++ w2, _, rfl, rfl, by decide +kernel, szl ?_, fun q nq => ?_⟩
    · rw [Str.length_append]
      exact Nat.le_trans (Nat.add_le_add clsLen (Nat.le_refl 2)) (by decide)
    rw [clsSplit]
    have s5 := same_mk (o := .lst (clsW.map V.str)) s4 nq
    have n5 : l4 ≠ q := ne_of_none h4 nq
    refine ⟨_, rfl, q, l4, _, _, rfl, SqL.of upd_same, SqL.of ((upd_ne n5).trans h4), fun D nD => ?_⟩
    have h5 : upd G4 q (.lst (clsW.map V.str)) q = _ := upd_same
    have h6 : upd G4 q (.lst (clsW.map V.str)) l4 = _ := (upd_ne n5).trans h4
    generalize upd G4 q _ = G5 at s5 h5 h6 nD ⊢
    refine loop_zip (xs := clsW.map V.str) (ys := clsF.map V.bl) (fun i H' => Same G5 H' ∧ H' D = some (.lst (clsR i))) rfl ⟨same_mk (Same.refl _) nD, upd_same⟩ (fun i H' _ h => ⟨SqL.of (h.1 _ _ h5), SqL.of (h.1 _ _ (show G5 l4 = some (.lst (clsF.map V.bl)) from h6))⟩) ?_ ?_
    · rintro i x y T1 H1 hx hy ⟨e1, e2⟩ nT
      obtain ⟨wd, hw, rfl⟩ := map_get hx
      obtain ⟨f, hf', rfl⟩ := map_get hy
      have nd : D ≠ T1 := ne_of_none e2 nT
      refine ⟨T1, _, rfl, SqT.of upd_same, rfl, _, _, rfl, _, _, rfl, rfl, rfl, _, rfl, f, rfl, ?_⟩
      have e3 := clsR_succ hw hf'
      cases f with
      | false => exact ⟨same_mk e1 nT, by rw [e3, upd_ne nd, e2]; simp⟩
      | true => exact ⟨_, rfl, _, (upd_ne nd).trans e2, small1000 (by have := clsR_len i; omega), same_put (same_mk e1 nT) nD, by rw [e3, upd_same]; rfl⟩
    · rintro H1 ⟨e1, e2⟩
      exact k D H1 (Same.trans s5 e1) (Same.free s5 nD) e2
end
end Km

set_option Elab.async false
set_option linter.all false
set_option maxRecDepth 100000
set_option maxHeartbeats 4000000
namespace Lx
open PySem PySem.Spec PyProof.Rows L2
theorem pe_imp {X : Cx} {e : Expr} {t t' : TE} (he : PE X e t) (h : ∀ σ H Q, t' σ H Q → t σ H Q) : PE X e t' := ⟨fun pins s σ H Q I q => he.run pins s σ H Q I (h σ H Q q)⟩
end Lx
namespace Km
open PySem PySem.Spec PyProof.Rows L2 Lx Dg TL Lo
section
variable {P : Program} {w : World} {K : PySem.W.Frag} {mg : Str → Option Value} {base : Heap}
/-- at x: ('error', ['ValueError', 'OutOf'], 'fraction') -/
def ErrAt (H : Hp) (x : Addr) : Prop := ∃ l, H x = some (.tup [.str "error", .ref l, .str "fraction"]) ∧ H l = some (.lst [.str "ValueError", .str "OutOf"])
def spAsk : Sp := fun vs H Q _ => ∃ t : Int, vs = [.int t, .int 0] ∧ ∀ x H', Same H H' → ErrAt H' x → Q (.ref x) H'
theorem ok_law_ask (hP : Pr P) (T : Txt K mg) : FnOk P w K mg base CX0 6 (He.ga K "_law_ask") (fdAt K D_law_ask) ["up", "down"] spAsk := by
  refine okN T.d_law_ask sc_law_ask (fun vs H Q E h => ?_) (fun cdv A outer s H vs Q E hr h => ?_)
  · obtain ⟨_, rfl, _⟩ := h
    rfl
  · obtain ⟨t, rfl, k⟩ := h
    have O := T.oo hP
    refine ⟨_, pss_one (L2N.ps_try_as (i := 2) (Wout := fun _ _ _ _ => False) (c := .ref (OO K)) (tb := fun W => tRet (tMake (He.ga K "Ratio") (spIni0 K) [] (fun cls d H' => ∀ σ : L2.St, σ.length = 3 → W cls d σ H') (tCons (tVar 0) (tCons (tVar 1) tNil)))) rfl rfl sc_law_ask.nd rfl rfl ⟨rfl, by decide, .inl T.m_OutOf⟩ (fun u s' ⟨_, _, _, _, _, _, _, _, _, _, _, _, _, _, _, _, z⟩ => z.elim)
      (fun W pn xe tk po => pss_one (ps_ret (pe_make T.mk_Ratio (out_Ratio__init hP T) (hr.mono (by decide)) rfl T.m_Ratio T.b_ini .nil (fun pins σ H s e s' I c => tk e s' (L2N.XE.of_call I (fun cls d H' z => z σ I.len) c)) (pa_cons (pv 0) (pa_cons (pv 1) pa_nil)))))
      (ts := fun a cls d => tRet (tTup (tCons (tC (.str "error")) (tCons (fun σ H Q => (tCons (tVar 2) tNil) σ H fun vs H1 => ∃ dd, vs = [.ref a] ∧ cls = .ref (OO K) ∧ d = some dd ∧ H1 dd = some (.xd whatF) ∧ ∀ q H', Same H1 H' → H1 q = none → H' q = some (.lst [.str "ValueError", .str "OutOf"]) → Q (.ref q) H')
        (tCons (tXf a cls d (OO K) "what" (tVar 2)) tNil)))))
      (fun a oe cls d pn hz hf => pss_one (ps_ret (pe_tup (pa_cons pe_str (pa_cons (pe_imp (pe_callP (p := (a, oe)) (ok_law_classes hP T) ⟨(hr.mono (show 3 ≤ 5 by decide)).dp, (hr.mono (show 3 ≤ 5 by decide)).un⟩ ⟨rfl, hf.choose, hf.choose_spec, hz.2.2 _ hf.choose_spec⟩ (List.mem_cons_self ..) rfl T.m_law_classes T.k_law_classes T.b_law_classes (pa_cons (pv 2) pa_nil)) ?_)
        (pa_cons (pe_xf O.x (O.a _ (List.mem_singleton.mpr rfl)) hz.zc hf (pv 2)) pa_nil))))))), ?_⟩
    · rintro σ H1 Q1 ⟨v, e1, dd, e2, e3, e4, e5, k1⟩
      exact ⟨v, e1, dd, e2, ⟨hz.1.trans e3, hz.2.1.trans e4⟩, hf, e5, k1⟩
    · refine ⟨_, rfl, _, rfl, fun x dx nx nd nxd => ⟨x, dx, t, rfl, fun d H' hk nd2 hd σ hl => ⟨true, T.exm, fun _ a na => ?_, fun z => nomatch z⟩⟩⟩
      have e0 : Same H H' := Same.made nx nd fun b o e _ => hk b o e
      obtain ⟨x0, x1, x2, rfl⟩ : ∃ x0 x1 x2, σ = [x0, x1, x2] := by
        match σ, hl with
        | [x0, x1, x2], _ => exact ⟨x0, x1, x2, rfl⟩
      refine ⟨_, rfl, d, rfl, rfl, rfl, hd, fun q H1 e1 nq hq => ⟨_, rfl, rfl, rfl, d, _, _, rfl, e1 _ _ hd, rfl, szl (n := 3) (by decide), fun r nr => ?_⟩⟩
      exact k r _ (Same.trans e0 (Same.trans e1 (same_mk (Same.refl _) nr))) ⟨q, upd_same, by rw [upd_ne (ne_of_none hq nr)]; exact hq⟩
end
end Km

set_option Elab.async false
set_option linter.all false
set_option maxRecDepth 100000
set_option maxHeartbeats 4000000
namespace Lx
open PySem PySem.Spec PyProof.Rows L2
/-- a statement, then the rest, what holds between them being told once -/
theorem pss_cut {X : Cx} {st : Stmt} {rest : List Stmt} {t u : TS} (h1 : PS X st t) (h2 : PSs X rest u) : PSs X (st :: rest) (fun D σ H => ∃ mid : L2.St → Hp → Prop, t { D with nx := mid } σ H ∧ ∀ σ' H', mid σ' H' → u D σ' H') := by
  refine ⟨fun pins s σ H D I ⟨mid, ha, hb⟩ => wpAny_execs_cons (thn (h1.run pins s σ H { D with nx := mid } I ha) fun f s1 q => ?_)⟩
  cases f with
  | next =>
    obtain ⟨σ', H', I', q⟩ := q
    exact h2.run pins s1 σ' H' D I' (hb _ _ q)
  | ret v => exact q
  | brk => exact q
  | cont => exact q
end Lx
namespace Km
open PySem PySem.Spec PyProof.Rows L2 Lx Dg TL Lo
section
variable {P : Program} {w : World} {K : PySem.W.Frag} {mg : Str → Option Value} {base : Heap}
/-- the bag of draws at p -/
def BagAt (H : Hp) (p : Addr) : Prop := ∃ (q : Addr) (cs : List Int) (i b m k : Int), H p = some (.lst [.ref q, .int i, .int b, .int m, .int k]) ∧ H q = some (.lst (cs.map V.int)) ∧ 0 ≤ i ∧ 0 ≤ m ∧ m < 2147483647
/-- all that is known stays, but for p -/
structure SameB (p : Addr) (H H' : Hp) : Prop where
  k : ∀ b u, b ≠ p → H b = some u → H' b = some u
  c : ∀ q l, H p = some (.lst (.ref q :: l)) → ∃ l', H' p = some (.lst (.ref q :: l'))
instance {p : Addr} {H H' : Hp} : CoeFun (SameB p H H') (fun _ => ∀ b u, b ≠ p → H b = some u → H' b = some u) := ⟨SameB.k⟩
theorem SameB.refl (p : Addr) (H : Hp) : SameB p H H := ⟨fun _ _ _ h => h, fun _ l h => ⟨l, h⟩⟩
theorem sameB_upd {p q : Addr} {H H' : Hp} {l0 l : List V} (h : H p = some (.lst (.ref q :: l0))) (s : SameB p H H') : SameB p H (upd H' p (.lst (.ref q :: l))) :=
  ⟨fun b u hb hu => (upd_ne hb).trans (s.k b u hb hu), fun q' l' e => by
    rw [h] at e
    cases e
    exact ⟨l, upd_same⟩⟩
def spBag (K : PySem.W.Frag) : Sp := fun vs H Q _ => ∃ (a : Addr) (ns : List Int), vs = [.ref a] ∧ SqL K H a (ns.map V.int) ∧ ns.length ≤ 63 ∧ ∀ p H', Same H H' → H p = none → BagAt H' p → Q (.ref p) H'
theorem ok_law_bag (T : Txt K mg) : FnOk P w K mg base CX0 1 (He.ga K "_law_bag") (fdAt K D_law_bag) ["script"] (spBag K) := by
  refine okN T.d_law_bag sc_law_bag (fun vs H Q E h => ?_) (fun cdv A outer s H vs Q E hr h => ?_)
  · obtain ⟨_, _, rfl, _⟩ := h
    rfl
  · obtain ⟨a, ns, rfl, ha, hn, k⟩ := h
    refine ⟨_, (pss_cons (ps_set (i := 1) sc_law_bag.nd rfl (Or.inl rfl) pe_int)
        (pss_cons (ps_for PassesOwn.never rfl (pi_listk (pe_slice sl_listk (pv 0) po_none (po_some pe_int))) (pg_name (i := 2) sc_law_bag.nd rfl (Or.inl rfl)) (pss_one (ps_set (i := 1) sc_law_bag.nd rfl (Or.inl rfl) (pe_op op_mod (pe_callTy call_int1 rfl T.n_int (by decide +kernel) (pa_cons (pe_op op_add (pe_op op_add (pe_op op_mul (pv 1) pe_int) (pe_op op_mod (pe_callTy call_int1 rfl T.n_int (by decide +kernel) (pa_cons (pv 2) pa_nil)) pe_int)) pe_int) pa_nil)) pe_int))))
        (pss_one (ps_ret (pe_lst (pa_cons (pe_lc (own := [("cell", 2)]) rfl sc_law_bag.nd (pi_listk (pe_slice sl_listk (pv 0) po_none (po_some pe_int))) (blkOk_by (N := N_law_bag) (sc := defScope s_law_bag) (by decide +kernel)) (fun _ _ _ _ _ => by exact (pg_name (i := 2) sc_law_bag.nd rfl (Or.inl rfl))) (fun _ _ _ _ _ => by exact pts_nil) (fun _ _ _ _ _ => by exact (pe_callTy call_int1 rfl T.n_int (by decide +kernel) (pa_cons (pv 2) pa_nil)))) (pa_cons pe_int (pa_cons pe_int (pa_cons (pv 1) (pa_cons pe_int pa_nil)))))))))), ?_⟩
    obtain ⟨cs, hcs⟩ : ∃ cs : List Int, cutV (ns.map V.int) none (some 63) = cs.map V.int := ⟨_, by unfold cutV; rw [← List.map_drop, ← List.map_take]⟩
    have hl : cs.length ≤ 63 := by
      have e := congrArg List.length hcs
      rw [List.length_map] at e
      have z := cutV_length (ns.map V.int) none (some 63)
      rw [List.length_map] at z
      omega
    refine ⟨_, rfl, _, rfl, a, _, rfl, ha, fun q nq => ⟨q, rfl, ⟨_, SqL.of upd_same⟩, ?_⟩⟩
    rw [hcs]
    have s1 := same_mk (o := .lst (cs.map V.int)) (Same.refl H) nq
    have h1 : upd H q (.lst (cs.map V.int)) q = _ := upd_same
    generalize upd H q _ = G at s1 h1 ⊢
    refine for_list (xs := cs.map V.int) (fun i σ H' => ∃ (m : Int) (v : Option V), σ = [some (.ref a), some (.int m), v] ∧ 0 ≤ m ∧ m < 2147483647 ∧ H' = G) ⟨15487469, none, rfl, by decide, by decide, rfl⟩ (fun i σ H' _ ⟨m, v, _, _, _, e⟩ => SqL.of (by rw [e]; exact h1)) ?_ ?_
    · rintro i x σ H1 hx ⟨m, v, rfl, m0, m1, rfl⟩
      obtain ⟨c, _, rfl⟩ := map_get hx
      refine ⟨_, rfl, _, _, rfl, rfl, .inr ⟨by decide, by decide⟩, _, rfl, .inl ⟨_, rfl, _, _, rfl, rfl, show (0 : Int) < 2147483549 by decide, _, _, rfl, rfl, _, _, rfl, rfl, .inl ⟨_, rfl, _, _, rfl, rfl, show (0 : Int) < 2147483647 by decide, ?_⟩⟩⟩
      exact ⟨_, _, rfl, Int.emod_nonneg _ (by decide), Int.emod_lt_of_pos _ (by decide), rfl⟩
    · rintro σ H1 ⟨m, v, rfl, m0, m1, rfl⟩
      refine ⟨_, rfl, _, rfl, a, _, rfl, s1.seq ha, fun q2 nq2 => ⟨q2, rfl, ⟨_, SqL.of upd_same⟩, fun D nD => ?_⟩⟩
      rw [hcs] at nD ⊢
      have s2 := same_mk (o := .lst (cs.map V.int)) (Same.refl H1) nq2
      have h2 : upd H1 q2 (.lst (cs.map V.int)) q2 = _ := upd_same
      generalize upd H1 q2 _ = G2 at s2 h2 nD ⊢
      refine loop_list (xs := cs.map V.int) (fun i H' => Same G2 H' ∧ H' D = some (.lst ((cs.take i).map V.int))) ⟨same_mk (Same.refl _) nD, upd_same⟩ (fun i H' _ h => SqL.of (h.1 _ _ h2)) ?_ ?_
      · rintro i x H3 hx ⟨t1, t2⟩
        obtain ⟨c, hc, rfl⟩ := map_get hx
        refine ⟨rfl, yes_of ⟨_, rfl, .inl ⟨_, rfl, _, t2, small1000 ?_, same_put t1 nD, ?_⟩⟩⟩
        · rw [List.length_map, List.length_take]
          omega
        · rw [upd_same, List.take_add_one, hc, List.map_append]
          rfl
      · rintro H3 ⟨t1, t2⟩
        rw [List.length_map, List.take_length] at t2
        have e1 : Same H H3 := Same.trans s1 (Same.trans s2 t1)
        refine ⟨_, rfl, szl (n := 5) (by decide), fun p np => k p _ (same_mk e1 np) (Same.free e1 np) ⟨D, cs, 0, 0, m, 0, upd_same, ?_, by decide, m0, m1⟩⟩
        rw [upd_ne (ne_of_none t2 np)]
        exact t2
def spDraw : Sp := fun vs H Q _ => ∃ (p : Addr) (lim : Int), vs = [.ref p, .int lim] ∧ BagAt H p ∧ 0 < lim ∧ lim < 1073741824 ∧ ∀ d H', 0 ≤ d → d < lim → SameB p H H' → BagAt H' p → Q (.int d) H'
theorem ok_law_draw (T : Txt K mg) : FnOk P w K mg base CX0 1 (He.ga K "_law_draw") (fdAt K D_law_draw) ["bag", "limit"] spDraw := by
  refine okN T.d_law_draw sc_law_draw (fun vs H Q E h => ?_) (fun cdv A outer s H vs Q E hr h => ?_)
  · obtain ⟨_, _, rfl, _⟩ := h
    rfl
  · obtain ⟨p, lim, rfl, ⟨q, cs, i, b, m, kk, hp, hq, hi, hm0, hm1⟩, l0, l1, k⟩ := h
    refine ⟨_, (pss_cons (ps_asg (pe_op op_add (pe_ix ix_listk (pv 0) pe_int (fun _ _ => rfl)) pe_int) (pg_sub (pv 0) pe_int set_list))
        (pss_cut (ps_if (PW.pt (pw_and (pt_cmpR op_eqI (pe_ix ix_listk (pv 0) pe_int (fun _ _ => rfl)) pe_int (nomark _)) (pw_and1 (pt_cmpR op_lt (pe_ix ix_listk (pv 0) pe_int (fun _ _ => rfl)) (pe_callB len_seqk rfl T.n_len (by decide +kernel) (pa_cons (pe_ix ix_listk (pv 0) pe_int (fun _ _ => rfl)) pa_nil)) (nomark _))))) (pss_cons (ps_set (i := 3) sc_law_draw.nd rfl (Or.inl rfl) (pe_callTy call_int1 rfl T.n_int (by decide +kernel) (pa_cons (pe_ix ix_listk (pe_ix ix_listk (pv 0) pe_int (fun _ _ => rfl)) (pe_ix ix_listk (pv 0) pe_int (fun _ _ => rfl)) (fun _ _ => rfl)) pa_nil)))
        (pss_cons (ps_asg (pe_op op_add (pe_ix ix_listk (pv 0) pe_int (fun _ _ => rfl)) pe_int) (pg_sub (pv 0) pe_int set_list))
        (pss_one (ps_if (pt_cmpR op_ge (pv 3) (pe_op op_pow pe_int pe_int) (nomark _)) (pss_one (ps_asg (pv 3) (pg_sub (pv 0) pe_int set_list))) (pss_one (ps_asg (pe_op op_mod (pe_callTy call_int1 rfl T.n_int (by decide +kernel) (pa_cons (pe_op op_add (pe_op op_add (pe_op op_mul (pe_ix ix_listk (pv 0) pe_int (fun _ _ => rfl)) pe_int) (pe_op op_mul (pe_op op_mod (pe_callTy call_int1 rfl T.n_int (by decide +kernel) (pa_cons (pv 3) pa_nil)) pe_int) pe_int)) pe_int) pa_nil)) pe_int) (pg_sub (pv 0) pe_int set_list))))))) pss_nil)
        (pss_cons (ps_if (pt_cmpR op_gt (pe_ix ix_listk (pv 0) pe_int (fun _ _ => rfl)) pe_int (nomark _)) (pss_cons (ps_set (i := 4) sc_law_draw.nd rfl (Or.inl rfl) (pe_op op_mod (pe_callTy call_int1 rfl T.n_int (by decide +kernel) (pa_cons (pe_ix ix_listk (pv 0) pe_int (fun _ _ => rfl)) pa_nil)) (pv 1)))
        (pss_cons (ps_asg (pe_op op_fdiv (pe_ix ix_listk (pv 0) pe_int (fun _ _ => rfl)) (pv 1)) (pg_sub (pv 0) pe_int set_list))
        (pss_one (ps_ret (pv 4))))) pss_nil)
        (pss_cons (ps_set (i := 2) sc_law_draw.nd rfl (Or.inl rfl) (pe_callTy call_int1 rfl T.n_int (by decide +kernel) (pa_cons (pe_ix ix_listk (pv 0) pe_int (fun _ _ => rfl)) pa_nil)))
        (pss_cons (ps_asg (pe_op op_mod (pe_callTy call_int1 rfl T.n_int (by decide +kernel) (pa_cons (pe_op op_add (pe_op op_add (pe_op op_add (pe_op op_pow (pv 2) pe_int) (pe_op op_mul (pv 2) pe_int)) (pe_op op_mul (pe_ix ix_listk (pv 0) pe_int (fun _ _ => rfl)) pe_int)) pe_int) pa_nil)) pe_int) (pg_sub (pv 0) pe_int set_list))
        (pss_one (ps_ret (pe_op op_mod (pe_callTy call_int1 rfl T.n_int (by decide +kernel) (pa_cons (pe_op op_add (pe_op op_fdiv (pe_ix ix_listk (pv 0) pe_int (fun _ _ => rfl)) pe_int) (pe_op op_mul (pe_op op_mod (pe_callTy call_int1 rfl T.n_int (by decide +kernel) (pa_cons (pe_ix ix_listk (pv 0) pe_int (fun _ _ => rfl)) pa_nil)) pe_int) pe_int)) pa_nil)) (pv 1))))))))), ?_⟩
    have npq : q ≠ p := fun z => by
      rw [z, hp] at hq
      cases cs <;> simp at hq
    refine ⟨_, rfl, p, _, _, _, rfl, rfl, SqL.of hp, rfl, _, _, rfl, rfl, _, rfl, p, _, _, _, rfl, rfl, hp, rfl, fun σ' H' => ∃ (v : Option V) (i b m kk : Int), σ' = [some (.ref p), some (.int lim), none, v, none] ∧ SameB p H H' ∧ H' p = some (.lst [.ref q, .int i, .int b, .int m, .int kk]) ∧ 0 ≤ i ∧ 0 ≤ m ∧ m < 2147483647, ?_, ?_⟩
    · generalize hG : upd H p _ = G
      have e1 : SameB p H G := by rw [← hG]; exact sameB_upd hp (SameB.refl p H)
      have e2 : G p = some (.lst [.ref q, .int i, .int b, .int m, .int (kk + 1)]) := by rw [← hG]; exact upd_same
      have e3 : G q = some (.lst (cs.map V.int)) := e1 _ _ npq hq
      refine ⟨_, rfl, p, _, _, _, rfl, rfl, SqL.of e2, rfl, _, _, rfl, rfl, _, rfl, iteD (fun c1 => ?_) (fun c1 => ?_)⟩
      · refine ⟨_, rfl, p, _, _, _, rfl, rfl, SqL.of e2, rfl, _, rfl, p, _, _, _, rfl, rfl, SqL.of e2, rfl, q, _, rfl, .inl (SqL.of e3), _, _, rfl, rfl, _, rfl, iteD (fun c2 => ?_) (fun c2 => ?_)⟩
        · obtain ⟨j, rfl⟩ := Int.eq_ofNat_of_zero_le hi
          have hj : j < cs.length := by
            have z := c2
            rw [List.length_map] at z
            omega
          have hat : atI (cs.map V.int) (j : Int) = some (V.int cs[j]) := atI_nat (by simp [hj])
          refine ⟨_, rfl, p, _, _, _, rfl, rfl, SqL.of e2, rfl, _, rfl, p, _, _, _, rfl, rfl, SqL.of e2, rfl, q, _, _, _, rfl, rfl, SqL.of e3, hat, .inl ⟨_, rfl, ?_⟩⟩
          refine ⟨_, rfl, p, _, _, _, rfl, rfl, SqL.of e2, rfl, _, _, rfl, rfl, _, rfl, p, _, _, _, rfl, rfl, e2, rfl, ?_⟩
          refine ⟨_, rfl, _, _, rfl, rfl, ⟨by decide, by decide, by decide⟩, _, _, rfl, rfl, _, rfl, iteD (fun c3 => ?_) (fun c3 => ?_)⟩
          · exact ⟨_, rfl, _, rfl, p, _, _, _, rfl, rfl, upd_same, rfl, _, _, _, _, _, rfl, sameB_upd hp (sameB_upd hp e1), upd_same, by omega, hm0, hm1⟩
          · exact ⟨_, rfl, p, _, _, _, rfl, rfl, SqL.of upd_same, rfl, _, _, rfl, rfl, .inr ⟨by decide, by decide⟩, _, rfl, .inl ⟨_, rfl, _, _, rfl, rfl, show (0 : Int) < 2147483489 by decide, _, _, rfl, rfl, .inr ⟨by decide, by decide⟩, _, _, rfl, rfl, _, _, rfl, rfl, .inl ⟨_, rfl, _, _, rfl, rfl, show (0 : Int) < 2147483647 by decide, _, rfl, p, _, _, _, rfl, rfl, upd_same, rfl, _, _, _, _, _, rfl, sameB_upd hp (sameB_upd hp e1), upd_same, by omega, Int.emod_nonneg _ (by decide), Int.emod_lt_of_pos _ (by decide)⟩⟩⟩
        · exact ⟨_, _, _, _, _, rfl, e1, e2, hi, hm0, hm1⟩
      · exact ⟨_, _, _, _, _, rfl, e1, e2, hi, hm0, hm1⟩
    · rintro σ1 H1 ⟨v, i, b, m, kk, rfl, s1, h1, i0, m0, m1⟩
      have h2 : H1 q = some (.lst (cs.map V.int)) := s1 _ _ npq hq
      have fin : ∀ {H' : Hp} {l : List V} {i b m kk : Int}, H' = upd H1 p (.lst l) → l = [.ref q, .int i, .int b, .int m, .int kk] → 0 ≤ i → 0 ≤ m → m < 2147483647 → SameB p H H' ∧ BagAt H' p := fun {H' l i b m kk} e el a1 a2 a3 => by
        subst e el
        exact ⟨sameB_upd hp s1, q, cs, i, b, m, kk, upd_same, (upd_ne npq).trans h2, a1, a2, a3⟩
      refine ⟨_, rfl, p, _, _, _, rfl, rfl, SqL.of h1, rfl, _, _, rfl, rfl, _, rfl, iteD (fun c1 => ?_) (fun c1 => ?_)⟩
      · refine ⟨_, rfl, p, _, _, _, rfl, rfl, SqL.of h1, rfl, .inl ⟨_, rfl, _, rfl, _, _, rfl, rfl, l0, ?_⟩⟩
        refine ⟨_, rfl, p, _, _, _, rfl, rfl, SqL.of h1, rfl, _, rfl, _, _, rfl, rfl, ⟨l0, l1⟩, _, rfl, p, _, _, _, rfl, rfl, h1, rfl, ?_⟩
        exact ⟨_, rfl, k _ _ (Int.emod_nonneg _ (by omega)) (Int.emod_lt_of_pos _ l0) (fin rfl rfl i0 m0 m1).1 (fin rfl rfl i0 m0 m1).2⟩
      · refine ⟨_, rfl, p, _, _, _, rfl, rfl, SqL.of h1, rfl, .inl ⟨_, rfl, ?_⟩⟩
        refine ⟨_, rfl, _, _, rfl, rfl, ⟨by decide, by decide, ?_⟩, _, rfl, _, _, rfl, rfl, .inr ⟨by decide, by decide⟩, _, _, rfl, rfl, _, rfl, p, _, _, _, rfl, rfl, SqL.of h1, rfl, _, _, rfl, rfl, .inr ⟨by decide, by decide⟩, _, _, rfl, rfl, _, _, rfl, rfl, .inl ⟨_, rfl, _, _, rfl, rfl, show (0 : Int) < 2147483647 by decide, _, rfl, p, _, _, _, rfl, rfl, h1, rfl, ?_⟩⟩
        · have : m.natAbs < 2147483647 := by omega
          exact Nat.lt_trans this (by decide)
        · refine ⟨_, rfl, p, _, _, _, rfl, rfl, SqL.of upd_same, rfl, _, _, rfl, rfl, ⟨by decide, by decide⟩, _, rfl, p, _, _, _, rfl, rfl, SqL.of upd_same, rfl, .inl ⟨_, rfl, _, _, rfl, rfl, show (0 : Int) < 8009 by decide, _, _, rfl, rfl, .inr ⟨by decide, by decide⟩, _, _, rfl, rfl, .inl ⟨_, rfl, _, rfl, _, _, rfl, rfl, l0, ?_⟩⟩⟩
          exact k _ _ (Int.emod_nonneg _ (by omega)) (Int.emod_lt_of_pos _ l0) (fin rfl rfl i0 (Int.emod_nonneg _ (by decide)) (Int.emod_lt_of_pos _ (by decide))).1 (fin rfl rfl i0 (Int.emod_nonneg _ (by decide)) (Int.emod_lt_of_pos _ (by decide))).2
end
end Km

set_option Elab.async false
set_option linter.all false
set_option maxRecDepth 100000
set_option maxHeartbeats 4000000
namespace Km
open PySem PySem.Spec PyProof.Rows L2 Lx Dg TL Lo
section
variable {P : Program} {w : World} {K : PySem.W.Frag} {mg : Str → Option Value} {base : Heap}
def spOf : Sp := fun vs H Q _ => ∃ (p l : Addr) (xs : List V), vs = [.ref p, .ref l] ∧ BagAt H p ∧ H l = some (.lst xs) ∧ l ≠ p ∧ xs ≠ [] ∧ xs.length < 1000000000 ∧ ∀ (i : Nat) x H', xs[i]? = some x → SameB p H H' → BagAt H' p → Q x H'
theorem ok_law_of (T : Txt K mg) : FnOk P w K mg base CX0 2 (He.ga K "_law_of") (fdAt K D_law_of) ["bag", "menu"] spOf := by
  refine okN T.d_law_of sc_law_of (fun vs H Q E h => ?_) (fun cdv A outer s H vs Q E hr h => ?_)
  · obtain ⟨_, _, _, rfl, _⟩ := h
    rfl
  · obtain ⟨p, l, xs, rfl, hp, hl, nlp, ne, hlt, k⟩ := h
    refine ⟨_, (pss_one (ps_ret (pe_ix ix_listk (pv 1) (pe_call (ok_law_draw T) (hr.mono (by first | decide | omega)) rfl T.m_law_draw T.k_law_draw (T.b_law_draw) .nil pass0 (pa_cons (pv 0) (pa_cons (pe_callB len_seqk rfl T.n_len (by decide +kernel) (pa_cons (pv 1) pa_nil)) pa_nil))) (fun _ _ => rfl)))), ?_⟩
    have h0 : 0 < xs.length := List.length_pos_iff.mpr ne
    refine ⟨_, rfl, _, rfl, _, rfl, l, _, rfl, .inl (SqL.of hl), p, _, rfl, hp, by omega, by omega, fun d H' d0 d1 s1 b1 => ?_⟩
    obtain ⟨j, rfl⟩ := Int.eq_ofNat_of_zero_le d0
    have hj : j < xs.length := by omega
    exact ⟨l, xs, _, xs[j], rfl, rfl, SqL.of (s1 _ _ nlp hl), atI_nat (List.getElem?_eq_getElem hj), k j _ H' (List.getElem?_eq_getElem hj) s1 b1⟩
def spErr : Sp := fun vs H Q _ => vs = [.str "OutOf", .str "fraction"] ∧ ∀ x H', Same H H' → ErrAt H' x → Q (.ref x) H'
theorem ok_law_error (T : Txt K mg) : FnOk P w K mg base CX0 1 (He.ga K "_law_error") (fdAt K D_law_error) ["label", "value"] spErr := by
  refine okN T.d_law_error sc_law_error (fun vs H Q E h => ?_) (fun cdv A outer s H vs Q E hr h => ?_)
  · obtain ⟨rfl, _⟩ := h
    rfl
  · obtain ⟨rfl, k⟩ := h
    refine ⟨_, (pss_cons (ps_set (i := 2) sc_law_error.nd rfl (Or.inl rfl) (pe_ifExp (pt_cmpR op_eq (pv 0) pe_str (nomark _)) pe_str pe_str))
        (pss_one (ps_ret (pe_tup (pa_cons pe_str (pa_cons (pe_lst (pa_cons (pv 2) (pa_cons (pv 0) pa_nil))) (pa_cons (pv 1) pa_nil))))))), ?_⟩
    refine ⟨_, rfl, rfl, _, rfl, iteD (fun z => absurd z (by decide +kernel)) (fun _ => ?_)⟩
    refine ⟨_, rfl, _, rfl, szl (n := 2) (by decide), fun l nl => ⟨_, rfl, szl (n := 3) (by decide), fun x nx => ?_⟩⟩
    exact k x _ (same_mk (same_mk (Same.refl H) nl) nx) ⟨l, upd_same, by rw [upd_ne (ne_of_none upd_same nx), upd_same]⟩
def spLow : Sp := fun vs H Q _ => ∃ t b : Int, vs = [.int t, .int b] ∧ b ≠ 0 ∧ t.natAbs < 2 ^ 1900 ∧ b.natAbs < 2 ^ 1900 ∧ ∀ q H', Same H H' → H q = none → H' q = some (.tup [.int (lowT t b), .int (lowB t b)]) → Q (.ref q) H'
theorem ok_law_lowest (T : Txt K mg) : FnOk P w K mg base CX0 1 (He.ga K "_law_lowest") (fdAt K D_law_lowest) ["up", "down"] spLow := by
  refine okN T.d_law_lowest sc_law_lowest (fun vs H Q E h => ?_) (fun cdv A outer s H vs Q E hr h => ?_)
  · obtain ⟨_, _, rfl, _⟩ := h
    rfl
  · obtain ⟨t, b, rfl, b0, ht, hb, k⟩ := h
    refine ⟨_, (pss_cons (ps_par (i := 2) (j := 3) rfl sc_law_lowest.nd rfl rfl (by decide) rfl rfl (pa_cons (pe_callB call_abs rfl T.n_abs (by decide +kernel) (pa_cons (pv 0) pa_nil)) (pa_cons (pe_callB call_abs rfl T.n_abs (by decide +kernel) (pa_cons (pv 1) pa_nil)) pa_nil)) (by rfl))
        (pss_cut (ps_for PassesOwn.never rfl (pi_range1 rfl T.n_range (pa_cons (pe_op op_add (pe_op op_add (pe_bits (pe_callTy call_int1 rfl T.n_int (by decide +kernel) (pa_cons (pv 2) pa_nil))) (pe_bits (pe_callTy call_int1 rfl T.n_int (by decide +kernel) (pa_cons (pv 3) pa_nil)))) pe_int) pa_nil)) (pg_name (i := 4) sc_law_lowest.nd rfl (Or.inl rfl)) (pss_cons (ps_if (pt_cmpR op_eqI (pv 3) pe_int (nomark _)) (pss_one ps_break) pss_nil)
        (pss_cons (ps_set (i := 5) sc_law_lowest.nd rfl (Or.inl rfl) (pe_op op_mod (pv 2) (pv 3)))
        (pss_cons (ps_set (i := 2) sc_law_lowest.nd rfl (Or.inl rfl) (pv 3))
        (pss_one (ps_set (i := 3) sc_law_lowest.nd rfl (Or.inl rfl) (pv 5)))))))
        (pss_cons (ps_if (pt_cmpR op_lt (pv 1) pe_int (nomark _)) (pss_one (ps_ret (pe_tup (pa_cons (pe_op op_sub pe_int (pe_op op_fdivWN (pv 0) (pv 2))) (pa_cons (pe_op op_sub pe_int (pe_op op_fdivWN (pv 1) (pv 2))) pa_nil))))) pss_nil)
        (pss_one (ps_ret (pe_tup (pa_cons (pe_op op_fdivWN (pv 0) (pv 2)) (pa_cons (pe_op op_fdivWN (pv 1) (pv 2)) pa_nil)))))))), ?_⟩
    have ea : (if t < 0 then -t else t) = ((t.natAbs : Nat) : Int) := by split <;> omega
    have eb : (if b < 0 then -b else b) = ((b.natAbs : Nat) : Int) := by split <;> omega
    have hp : 0 < b.natAbs := by omega
    refine ⟨_, rfl, _, rfl, _, rfl, _, rfl, _, _, rfl, fun σ' H' => ∃ (v v' : Option V), σ' = [some (.int t), some (.int b), some (.int ((Nat.gcd t.natAbs b.natAbs : Nat) : Int)), some (.int 0), v, v'] ∧ H' = H, ?_, ?_⟩
    · rw [ea, eb]
      have la := bits_le ht
      have lb := bits_le hb
      have ka := lt_bits t.natAbs
      have kb := lt_bits b.natAbs
      generalize hla : Builtin.Int.intBits ((t.natAbs : Nat) : Int) = A1 at la ka
      generalize hlb : Builtin.Int.intBits ((b.natAbs : Nat) : Int) = B1 at lb kb
      refine ⟨_, rfl, .inl ⟨_, rfl, _, rfl, _, rfl, .inl ⟨_, rfl, _, rfl, _, _, rfl, rfl, _, _, rfl, rfl, ((A1 + B1 + 2 : Nat) : Int), ?_, by omega, by omega, ?_⟩⟩⟩
      · rw [hla, hlb]
        rfl
      rw [Int.toNat_natCast]
      have fin : ∀ {i a : Nat} {v v' : Option V}, EI t.natAbs b.natAbs i a 0 → ∃ (u u' : Option V), [some (V.int t), some (V.int b), some (V.int ((a : Nat) : Int)), some (V.int ((0 : Nat) : Int)), v, v'] = [some (V.int t), some (V.int b), some (V.int ((Nat.gcd t.natAbs b.natAbs : Nat) : Int)), some (V.int 0), u, u'] ∧ H = H := fun {i a v v'} e =>
        ⟨v, v', by rw [e.done]; rfl, rfl⟩
      refine for_range (fun i σ H' => ∃ (a b' : Nat) (v v' : Option V), σ = [some (V.int t), some (V.int b), some (V.int ((a : Nat) : Int)), some (V.int ((b' : Nat) : Int)), v, v'] ∧ H' = H ∧ EI t.natAbs b.natAbs i a b') ⟨t.natAbs, b.natAbs, none, none, rfl, rfl, EI.start _ _⟩ ?_ ?_
      · rintro i σ H1 hi ⟨a, b', v, v', rfl, rfl, e⟩
        refine ⟨_, rfl, _, _, rfl, rfl, _, rfl, iteD (fun c => ?_) (fun c => ?_)⟩
        · have c' : b' = 0 := by have := c; omega
          subst c'
          exact fin e
        · have c' : b' ≠ 0 := fun z => c (by rw [z]; rfl)
          exact ⟨_, rfl, _, rfl, _, _, rfl, rfl, show (0 : Int) < ((b' : Nat) : Int) by omega, _, rfl, _, rfl, b', a % b', _, _, rfl, rfl, e.step c'⟩
      · rintro σ H1 ⟨a, b', v, v', rfl, rfl, e⟩
        have hlt : t.natAbs * b.natAbs < 2 ^ (A1 + B1 + 2 - 1) := by
          refine Nat.lt_of_lt_of_le (Nat.mul_lt_mul_of_lt_of_le' ka (Nat.le_of_lt kb) (by omega)) ?_
          rw [← Nat.pow_add]
          exact Nat.pow_le_pow_right (by decide) (by omega)
        have c' := e.stop (by omega) hlt
        subst c'
        exact fin e
    · rintro σ1 H1 ⟨v, v', rfl, rfl⟩
      have hg := gcd_pos (t := t) b0
      have hgl : Nat.gcd t.natAbs b.natAbs < 2 ^ 1900 := Nat.lt_of_le_of_lt (Nat.le_of_dvd (by omega) (Nat.gcd_dvd_right _ _)) hb
      have hw : CDivWN t ((Nat.gcd t.natAbs b.natAbs : Nat) : Int) ∧ CDivWN b ((Nat.gcd t.natAbs b.natAbs : Nat) : Int) := by
        have z : CDivWN t ((Nat.gcd t.natAbs b.natAbs : Nat) : Int) := wide_divN (by omega) (by rw [Int.natAbs_natCast]; exact hgl) (by decide) (by decide)
        exact ⟨z, z⟩
      refine ⟨_, rfl, _, _, rfl, rfl, _, rfl, iteD (fun h1 => ?_) (fun h1 => ?_)⟩
      · have e := (low_sign (t := t) (b := b)).1 h1
        refine ⟨_, rfl, _, rfl, _, _, rfl, rfl, hw.1, _, _, rfl, rfl, _, rfl, _, rfl, _, _, rfl, rfl, hw.2, _, _, rfl, rfl, szl (n := 2) (by decide), fun q nq => k q _ (same_mk (Same.refl H1) nq) nq ?_⟩
        rw [upd_same, ← e.1, ← e.2]
      · have e := (low_sign (t := t) (b := b)).2 h1
        refine ⟨_, rfl, _, rfl, _, _, rfl, rfl, hw.1, _, rfl, _, rfl, _, _, rfl, rfl, hw.2, szl (n := 2) (by decide), fun q nq => k q _ (same_mk (Same.refl H1) nq) nq ?_⟩
        rw [upd_same, ← e.1, ← e.2]
end
end Km

set_option Elab.async false
set_option linter.all false
set_option maxRecDepth 100000
set_option maxHeartbeats 4000000
namespace Lx
open PySem PySem.Spec PyProof.Rows L2
theorem loop_zipT {K : PySem.W.Frag} {a b : Addr} {xs ys : List V} {B : V → Hp → (Hp → Prop) → Prop} {Qd : Hp → Prop} {H0 : Hp} (Pv : Nat → Hp → Prop) (hl : xs.length = ys.length) (h0 : Pv 0 H0) (hq : ∀ i H, i ≤ xs.length → Pv i H → SqT K H a xs ∧ SqT K H b ys)
    (hs : ∀ i x y T H, xs[i]? = some x → ys[i]? = some y → Pv i H → H T = none → B (.ref T) (upd H T (.tup [x, y])) (Pv (i + 1))) (hd : ∀ H, Pv xs.length H → Qd H) :
    ∃ W : Nat → Nat → Hp → Prop, (∃ m, W 0 m H0) ∧ ∀ i m H, W i m H → ((RZ.ItzT K a b).stop i H ∧ Qd H) ∨ ((RZ.ItzT K a b).go i H ∧ ∃ Nx : Hp → Prop, (∀ H', Nx H' → ∃ m', m' < m ∧ W (i + 1) m' H') ∧ ∀ x H', (RZ.ItzT K a b).yld i H x H' → B x H' Nx) := by
  refine ⟨fun i m H => m = xs.length - i ∧ i ≤ xs.length ∧ Pv i H, ⟨xs.length, rfl, Nat.zero_le _, h0⟩, ?_⟩
  rintro i m H ⟨rfl, hi, p⟩
  obtain ⟨q1, q2⟩ := hq i H hi p
  by_cases hlt : i < xs.length
  · have hlt2 : i < ys.length := by omega
    refine .inr ⟨⟨xs, ys, _, _, q1, q2, List.getElem?_eq_getElem hlt, List.getElem?_eq_getElem hlt2⟩, Pv (i + 1), fun H' p' => ⟨xs.length - (i + 1), by omega, rfl, hlt, p'⟩, fun v H' y => ?_⟩
    obtain ⟨T, x', y', rfl, hT, rfl, f1, f2⟩ := y
    exact hs i x' y' T H (f1 xs q1) (f2 ys q2) p hT
  · have e : i = xs.length := by omega
    subst e
    exact .inl ⟨⟨xs, ys, q1, q2, Or.inl (Nat.le_refl _)⟩, hd H p⟩
end Lx
namespace Km
open PySem PySem.Spec PyProof.Rows L2 Lx Dg TL Lo
theorem kt1 (K : PySem.W.Frag) : PySem.W.kitOne K (.type "int") (.type "list") = some false := by kernel_rfl
theorem kt2 (K : PySem.W.Frag) : PySem.W.kitAny K (.type "bool") [.type "list", .type "tuple", .type "dict"] = some false := by kernel_rfl
section
variable {P : Program} {w : World} {K : PySem.W.Frag} {mg : Str → Option Value} {base : Heap}
/-- equal, n deep -/
def Lk (H : Hp) : Nat → V → V → Prop
  | 0, _, _ => False
  | n + 1, x, y => ((∃ i, x = .int i ∧ y = .int i) ∨ (∃ k, x = .bl k ∧ y = .bl k) ∨ ∃ z, x = .str z ∧ y = .str z) ∨
    ∃ (p q : Addr) (xs ys : List V), x = .ref p ∧ y = .ref q ∧ ((H p = some (.tup xs) ∧ H q = some (.tup ys)) ∨ (H p = some (.lst xs) ∧ H q = some (.lst ys))) ∧ xs.length = ys.length ∧ xs.length ≤ 1000 ∧ ∀ (i : Nat) (a b : V), xs[i]? = some a → ys[i]? = some b → Lk H n a b
theorem Lk.same {H H' : Hp} (s : Same H H') : ∀ {n : Nat} {x y : V}, Lk H n x y → Lk H' n x y
  | 0, _, _, h => h.elim
  | n + 1, x, y, h => h.imp id fun ⟨p, q, xs, ys, e1, e2, e3, e4, e5, e6⟩ => ⟨p, q, xs, ys, e1, e2, e3.imp (fun z => ⟨s _ _ z.1, s _ _ z.2⟩) (fun z => ⟨s _ _ z.1, s _ _ z.2⟩), e4, e5, fun i a b ha hb => (e6 i a b ha hb).same s⟩
def spLike (n : Nat) : Sp := fun vs H Q _ => ∃ x y, vs = [x, y] ∧ Lk H n x y ∧ ∀ H', Same H H' → Q (.bl true) H'
theorem ok_law_like (T : Txt K mg) : ∀ n, FnOk P w K mg base CX0 n (He.ga K "_law_like") (fdAt K D_law_like) ["told", "due"] (spLike n)
  | 0 => ⟨fun _ _ _ _ ⟨_, _, _, z, _⟩ => z.elim, fun _ _ _ _ _ _ _ _ _ _ _ _ _ ⟨_, _, _, z, _⟩ => z.elim⟩
  | n + 1 => by
    have ih := ok_law_like T n
    refine okN T.d_law_like sc_law_like (fun vs H Q E h => ?_) (fun cdv A outer s H vs Q E hr h => ?_)
    · obtain ⟨_, _, rfl, _⟩ := h
      rfl
    · obtain ⟨x, y, rfl, hl, k⟩ := h
      refine ⟨_, (pss_cons (ps_if (PW.pt (pw_or (pt_cmpR op_isN (pv 1) pe_non (nomark _)) (pw_or1 (pt_cmpR op_isN (pv 0) pe_non (nomark _))))) (pss_one (ps_ret (pe_and (pe_cmpR op_isN (pv 1) pe_non (nomark _)) (pe_one (pe_cmpR op_isN (pv 0) pe_non (nomark _)))))) pss_nil)
        (pss_cons (ps_if (pt_val (pe_callB isiT_k rfl T.n_isinstance (by decide +kernel) (pa_cons (pv 1) (pa_cons (pe_tup (pa_cons (pe_bltn (v := .ty "list") rfl T.n_list (by decide +kernel) rfl) (pa_cons (pe_bltn (v := .ty "tuple") rfl T.n_tuple (by decide +kernel) rfl) pa_nil))) pa_nil)))) (pss_cons (ps_if (PW.pt (pw_or (pt_cmpR op_ne (pe_callB isi_k rfl T.n_isinstance (by decide +kernel) (pa_cons (pv 0) (pa_cons (pe_bltn (v := .ty "list") rfl T.n_list (by decide +kernel) rfl) pa_nil))) (pe_callB isi_k rfl T.n_isinstance (by decide +kernel) (pa_cons (pv 1) (pa_cons (pe_bltn (v := .ty "list") rfl T.n_list (by decide +kernel) rfl) pa_nil))) (nomark _)) (pw_or1 (pt_cmpR op_ne (pe_callB isi_k rfl T.n_isinstance (by decide +kernel) (pa_cons (pv 0) (pa_cons (pe_bltn (v := .ty "tuple") rfl T.n_tuple (by decide +kernel) rfl) pa_nil))) (pe_callB isi_k rfl T.n_isinstance (by decide +kernel) (pa_cons (pv 1) (pa_cons (pe_bltn (v := .ty "tuple") rfl T.n_tuple (by decide +kernel) rfl) pa_nil))) (nomark _))))) (pss_one (ps_ret pe_bl)) pss_nil)
        (pss_one (ps_ret (pe_and (pe_cmpR op_eqI (pe_callB call_len rfl T.n_len (by decide +kernel) (pa_cons (pv 0) pa_nil)) (pe_callB call_len rfl T.n_len (by decide +kernel) (pa_cons (pv 1) pa_nil)) (nomark _)) (pe_one (pe_callB (cr_all rfl) rfl T.n_all (by decide +kernel) (pa_cons (pe_lc (own := [("a", 2), ("b", 3)]) rfl sc_law_like.nd (pi_zipk rfl T.n_zip (pa_cons (pv 0) (pa_cons (pv 1) pa_nil))) (blkOk_by (N := N_law_like) (sc := defScope s_law_like) (by decide +kernel)) (fun _ _ _ _ _ => by exact (pg_tupk (n := 2) rfl (pgs_cons (pg_name (i := 2) sc_law_like.nd rfl (Or.inl rfl)) (pgs_cons (pg_name (i := 3) sc_law_like.nd rfl (Or.inl rfl)) pgs_nil)))) (fun _ _ _ _ _ => by exact pts_nil) (fun _ _ _ _ _ => by exact (pe_call ih (hr.mono (by first | decide | omega)) rfl T.m_law_like T.k_law_like (T.b_law_like) .nil pass0 (pa_cons (pv 2) (pa_cons (pv 3) pa_nil))))) pa_nil))))))) pss_nil)
        (pss_cons (ps_if (PW.pt (pw_or (pt_val (pe_callB isiT_k rfl T.n_isinstance (by decide +kernel) (pa_cons (pv 0) (pa_cons (pe_tup (pa_cons (pe_bltn (v := .ty "list") rfl T.n_list (by decide +kernel) rfl) (pa_cons (pe_bltn (v := .ty "tuple") rfl T.n_tuple (by decide +kernel) rfl) (pa_cons (pe_bltn (v := .ty "dict") rfl T.n_dict (by decide +kernel) rfl) pa_nil)))) pa_nil)))) (pw_or1 (pt_cmpR op_ne (pe_callB isi_k rfl T.n_isinstance (by decide +kernel) (pa_cons (pv 0) (pa_cons (pe_bltn (v := .ty "bool") rfl T.n_bool (by decide +kernel) rfl) pa_nil))) (pe_callB isi_k rfl T.n_isinstance (by decide +kernel) (pa_cons (pv 1) (pa_cons (pe_bltn (v := .ty "bool") rfl T.n_bool (by decide +kernel) rfl) pa_nil))) (nomark _))))) (pss_one (ps_ret pe_bl)) pss_nil)
        (pss_cons (ps_if (PW.pt (pw_or (pt_cmpR op_ne (pe_callB isi_k rfl T.n_isinstance (by decide +kernel) (pa_cons (pv 0) (pa_cons (pe_bltn (v := .ty "str") rfl T.n_str (by decide +kernel) rfl) pa_nil))) (pe_callB isi_k rfl T.n_isinstance (by decide +kernel) (pa_cons (pv 1) (pa_cons (pe_bltn (v := .ty "str") rfl T.n_str (by decide +kernel) rfl) pa_nil))) (nomark _)) (pw_or1 (pt_cmpR op_ne (pe_callB isi_k rfl T.n_isinstance (by decide +kernel) (pa_cons (pv 0) (pa_cons (pe_bltn (v := .ty "int") rfl T.n_int (by decide +kernel) rfl) pa_nil))) (pe_callB isi_k rfl T.n_isinstance (by decide +kernel) (pa_cons (pv 1) (pa_cons (pe_bltn (v := .ty "int") rfl T.n_int (by decide +kernel) rfl) pa_nil))) (nomark _))))) (pss_one (ps_ret pe_bl)) pss_nil)
        (pss_one (ps_ret (pe_callTy call_bool1 rfl T.n_bool (by decide +kernel) (pa_cons (pe_cmpR op_eq (pv 0) (pv 1) (nomark _)) pa_nil)))))))), ?_⟩
      rcases hl with (⟨i, rfl, rfl⟩ | ⟨b, rfl, rfl⟩ | ⟨z, rfl, rfl⟩) | ⟨p, q, xs, ys, rfl, rfl, hh, len, few, hk⟩
      · refine ⟨_, rfl, rfl, _, rfl, _, rfl, rfl, _, rfl, _, rfl, szl (n := 2) (by decide), fun tp2 nt2 => ⟨_, tp2, _, _, _, false, rfl, upd_same, .cons (.ty _) (.cons (.ty _) .nil), .base (.int _), by kernel_rfl, false, rfl, _, rfl, szl (n := 3) (by decide), fun tp3 nt3 => ⟨_, tp3, _, _, _, false, rfl, upd_same, .cons (.ty _) (.cons (.ty _) (.cons (.ty _) .nil)), .base (.int _), by kernel_rfl, false, rfl, _, rfl, _, _, _, _, false, rfl, .ty _, .base (.int _), by kernel_rfl, _, rfl, _, _, _, _, false, rfl, .ty _, .base (.int _), by kernel_rfl, rfl, _, rfl, _, rfl, _, _, _, _, false, rfl, .ty _, .base (.int _), by kernel_rfl, _, rfl, _, _, _, _, false, rfl, .ty _, .base (.int _), by kernel_rfl, rfl, _, rfl, _, rfl, _, _, _, _, true, rfl, .ty _, .base (.int _), by kernel_rfl, _, rfl, _, _, _, _, true, rfl, .ty _, .base (.int _), by kernel_rfl, rfl, _, rfl, _, rfl, _, rfl, rfl, .inr ⟨_, rfl, ?_⟩⟩⟩⟩
        rw [show decide (V.int i = V.int i) = true by simp]
        exact k _ (same_mk (same_mk (Same.refl H) nt2) nt3)
      · refine ⟨_, rfl, rfl, _, rfl, _, rfl, rfl, _, rfl, _, rfl, szl (n := 2) (by decide), fun tp2 nt2 => ⟨_, tp2, _, _, _, false, rfl, upd_same, .cons (.ty _) (.cons (.ty _) .nil), .base (.bl _), by kernel_rfl, false, rfl, _, rfl, szl (n := 3) (by decide), fun tp3 nt3 => ⟨_, tp3, _, _, _, false, rfl, upd_same, .cons (.ty _) (.cons (.ty _) (.cons (.ty _) .nil)), .base (.bl _), by kernel_rfl, false, rfl, _, rfl, _, _, _, _, true, rfl, .ty _, .base (.bl _), by kernel_rfl, _, rfl, _, _, _, _, true, rfl, .ty _, .base (.bl _), by kernel_rfl, rfl, _, rfl, _, rfl, _, _, _, _, false, rfl, .ty _, .base (.bl _), by kernel_rfl, _, rfl, _, _, _, _, false, rfl, .ty _, .base (.bl _), by kernel_rfl, rfl, _, rfl, _, rfl, _, _, _, _, true, rfl, .ty _, .base (.bl _), by kernel_rfl, _, rfl, _, _, _, _, true, rfl, .ty _, .base (.bl _), by kernel_rfl, rfl, _, rfl, _, rfl, _, rfl, rfl, .inr ⟨_, rfl, ?_⟩⟩⟩⟩
        rw [show decide (V.bl b = V.bl b) = true by simp]
        exact k _ (same_mk (same_mk (Same.refl H) nt2) nt3)
      · refine ⟨_, rfl, rfl, _, rfl, _, rfl, rfl, _, rfl, _, rfl, szl (n := 2) (by decide), fun tp2 nt2 => ⟨_, tp2, _, _, _, false, rfl, upd_same, .cons (.ty _) (.cons (.ty _) .nil), .base (.str _), by kernel_rfl, false, rfl, _, rfl, szl (n := 3) (by decide), fun tp3 nt3 => ⟨_, tp3, _, _, _, false, rfl, upd_same, .cons (.ty _) (.cons (.ty _) (.cons (.ty _) .nil)), .base (.str _), by kernel_rfl, false, rfl, _, rfl, _, _, _, _, false, rfl, .ty _, .base (.str _), by kernel_rfl, _, rfl, _, _, _, _, false, rfl, .ty _, .base (.str _), by kernel_rfl, rfl, _, rfl, _, rfl, _, _, _, _, true, rfl, .ty _, .base (.str _), by kernel_rfl, _, rfl, _, _, _, _, true, rfl, .ty _, .base (.str _), by kernel_rfl, rfl, _, rfl, _, rfl, _, _, _, _, false, rfl, .ty _, .base (.str _), by kernel_rfl, _, rfl, _, _, _, _, false, rfl, .ty _, .base (.str _), by kernel_rfl, rfl, _, rfl, _, rfl, _, rfl, rfl, .inr ⟨_, rfl, ?_⟩⟩⟩⟩
        rw [show decide (V.str z = V.str z) = true by simp]
        exact k _ (same_mk (same_mk (Same.refl H) nt2) nt3)
      · rcases hh with ⟨hp, hq⟩ | ⟨hp, hq⟩
        · refine ⟨_, rfl, rfl, _, rfl, _, rfl, rfl, _, rfl, _, rfl, szl (n := 2) (by decide), fun tp nt => ?_⟩
          have s1 := same_mk (o := .tup [V.ty "list", V.ty "tuple"]) (Same.refl H) nt
          refine ⟨_, tp, _, _, _, true, rfl, upd_same, .cons (.ty _) (.cons (.ty _) .nil), .base (.tup (s1 _ _ hq)), by kernel_rfl, _, rfl, ?_⟩
          generalize upd H tp _ = G at s1 ⊢
          have gp := s1 _ _ hp
          have gq := s1 _ _ hq
          refine ⟨_, rfl, _, _, _, _, false, rfl, .ty _, .base (.tup gp), by kernel_rfl, _, rfl, _, _, _, _, false, rfl, .ty _, .base (.tup gq), by kernel_rfl, rfl, _, rfl, _, rfl, _, _, _, _, true, rfl, .ty _, .base (.tup gp), by kernel_rfl, _, rfl, _, _, _, _, true, rfl, .ty _, .base (.tup gq), by kernel_rfl, rfl, _, rfl, _, rfl, _, _, rfl, .inr ⟨_, SqT.of gp, rfl⟩, _, rfl, _, _, rfl, .inr ⟨_, SqT.of gq, rfl⟩, _, _, rfl, rfl, _, rfl, iteD (fun _ => ?_) (fun z => absurd (congrArg Int.ofNat len) z)⟩
          refine ⟨_, rfl, _, rfl, p, q, xs, ys, rfl, .inr ⟨SqT.of gp, SqT.of gq, fun D nD => ?_⟩⟩
          refine loop_zipT (fun i H' => Same G H' ∧ H' D = some (.lst ((List.replicate i true).map V.bl))) len ⟨same_mk (Same.refl _) nD, upd_same⟩ (fun i H' _ z => ⟨SqT.of (z.1 _ _ gp), SqT.of (z.1 _ _ gq)⟩) ?_ ?_
          · rintro i x y T1 H1 hx hy ⟨t1, t2⟩ nT
            have nd : D ≠ T1 := ne_of_none t2 nT
            have il : i < xs.length := (List.getElem?_eq_some_iff.mp hx).1
            have e1 : Same H (upd H1 T1 (.tup [x, y])) := same_mk (Same.trans s1 t1) nT
            refine ⟨T1, _, rfl, SqT.of upd_same, rfl, _, _, rfl, _, _, rfl, rfl, rfl, yes_of ⟨_, rfl, _, rfl, x, y, rfl, (hk i x y hx hy).same e1, fun H4 s4 => ⟨_, s4 _ _ ((upd_ne nd).trans t2), small1000 ?_, same_put (Same.trans (same_mk t1 nT) s4) nD, ?_⟩⟩⟩
            · rw [List.length_map, List.length_replicate]
              omega
            · rw [upd_same, List.replicate_succ', List.map_append]
              rfl
          · rintro H1 ⟨t1, t2⟩
            refine ⟨D, _, rfl, SqL.of t2, ?_⟩
            rw [show (List.replicate xs.length true).all id = true by simp]
            exact k H1 (Same.trans s1 t1)
        · refine ⟨_, rfl, rfl, _, rfl, _, rfl, rfl, _, rfl, _, rfl, szl (n := 2) (by decide), fun tp nt => ?_⟩
          have s1 := same_mk (o := .tup [V.ty "list", V.ty "tuple"]) (Same.refl H) nt
          refine ⟨_, tp, _, _, _, true, rfl, upd_same, .cons (.ty _) (.cons (.ty _) .nil), .base (.lst (s1 _ _ hq)), by kernel_rfl, _, rfl, ?_⟩
          generalize upd H tp _ = G at s1 ⊢
          have gp := s1 _ _ hp
          have gq := s1 _ _ hq
          refine ⟨_, rfl, _, _, _, _, true, rfl, .ty _, .base (.lst gp), by kernel_rfl, _, rfl, _, _, _, _, true, rfl, .ty _, .base (.lst gq), by kernel_rfl, rfl, _, rfl, _, rfl, _, _, _, _, false, rfl, .ty _, .base (.lst gp), by kernel_rfl, _, rfl, _, _, _, _, false, rfl, .ty _, .base (.lst gq), by kernel_rfl, rfl, _, rfl, _, rfl, _, _, rfl, .inl ⟨_, SqL.of gp, rfl⟩, _, rfl, _, _, rfl, .inl ⟨_, SqL.of gq, rfl⟩, _, _, rfl, rfl, _, rfl, iteD (fun _ => ?_) (fun z => absurd (congrArg Int.ofNat len) z)⟩
          refine ⟨_, rfl, _, rfl, p, q, xs, ys, rfl, .inl ⟨SqL.of gp, SqL.of gq, fun D nD => ?_⟩⟩
          refine loop_zip (fun i H' => Same G H' ∧ H' D = some (.lst ((List.replicate i true).map V.bl))) len ⟨same_mk (Same.refl _) nD, upd_same⟩ (fun i H' _ z => ⟨SqL.of (z.1 _ _ gp), SqL.of (z.1 _ _ gq)⟩) ?_ ?_
          · rintro i x y T1 H1 hx hy ⟨t1, t2⟩ nT
            have nd : D ≠ T1 := ne_of_none t2 nT
            have il : i < xs.length := (List.getElem?_eq_some_iff.mp hx).1
            have e1 : Same H (upd H1 T1 (.tup [x, y])) := same_mk (Same.trans s1 t1) nT
            refine ⟨T1, _, rfl, SqT.of upd_same, rfl, _, _, rfl, _, _, rfl, rfl, rfl, yes_of ⟨_, rfl, _, rfl, x, y, rfl, (hk i x y hx hy).same e1, fun H4 s4 => ⟨_, s4 _ _ ((upd_ne nd).trans t2), small1000 ?_, same_put (Same.trans (same_mk t1 nT) s4) nD, ?_⟩⟩⟩
            · rw [List.length_map, List.length_replicate]
              omega
            · rw [upd_same, List.replicate_succ', List.map_append]
              rfl
          · rintro H1 ⟨t1, t2⟩
            refine ⟨D, _, rfl, SqL.of t2, ?_⟩
            rw [show (List.replicate xs.length true).all id = true by simp]
            exact k H1 (Same.trans s1 t1)
end
end Km

set_option Elab.async false
set_option linter.all false
set_option maxRecDepth 100000
set_option maxHeartbeats 4000000
namespace Km
open PySem PySem.Spec PyProof.Rows L2 Lx Dg TL Lo
section
variable {P : Program} {w : World} {K : PySem.W.Frag} {mg : Str → Option Value} {base : Heap}
theorem lk_str {H : Hp} {n : Nat} (z : Str) : Lk H (n + 1) (.str z) (.str z) := .inl (.inr (.inr ⟨z, rfl, rfl⟩))
theorem lk_int {H : Hp} {n : Nat} (i : Int) : Lk H (n + 1) (.int i) (.int i) := .inl (.inl ⟨i, rfl, rfl⟩)
theorem lk_bl {H : Hp} {n : Nat} (b : Bool) : Lk H (n + 1) (.bl b) (.bl b) := .inl (.inr (.inl ⟨b, rfl, rfl⟩))
theorem lk_pair {H : Hp} {n : Nat} {p q : Addr} {i j : Int} (h1 : H p = some (.tup [.int i, .int j])) (h2 : H q = some (.tup [.int i, .int j])) : Lk H (n + 2) (.ref p) (.ref q) :=
  .inr ⟨p, q, _, _, rfl, rfl, .inl ⟨h1, h2⟩, rfl, Nat.le_trans (Nat.le_refl 2) (by decide), fun k a b ha hb => by
    rcases k with _ | _ | k
    · cases ha; cases hb; exact lk_int i
    · cases ha; cases hb; exact lk_int j
    · cases ha⟩
theorem lk_err {H : Hp} {n : Nat} {p q : Addr} (h1 : ErrAt H p) (h2 : ErrAt H q) : Lk H (n + 3) (.ref p) (.ref q) := by
  obtain ⟨l, a1, a2⟩ := h1
  obtain ⟨m, b1, b2⟩ := h2
  refine .inr ⟨p, q, _, _, rfl, rfl, .inl ⟨a1, b1⟩, rfl, Nat.le_trans (Nat.le_refl 3) (by decide), fun k a b ha hb => ?_⟩
  rcases k with _ | _ | _ | k
  · cases ha; cases hb; exact lk_str _
  · cases ha; cases hb
    refine .inr ⟨l, m, _, _, rfl, rfl, .inr ⟨a2, b2⟩, rfl, Nat.le_trans (Nat.le_refl 2) (by decide), fun k a b ha hb => ?_⟩
    rcases k with _ | _ | k
    · cases ha; cases hb; exact lk_str _
    · cases ha; cases hb; exact lk_str _
    · cases ha
  · cases ha; cases hb; exact lk_str _
  · cases ha
def spIs (K : PySem.W.Frag) : Sp := fun vs H Q _ => ∃ p d t b, vs = [.ref p, .ref d] ∧ RatAt K H p t b ∧ H d = some (.tup [.int t, .int b]) ∧ t.natAbs < 2 ^ 1900 ∧ b.natAbs < 2 ^ 1900 ∧ ∀ H', Same H H' → Q (.bl true) H'
theorem ok_law_is_ratio (T : Txt K mg) : FnOk P w K mg base CX0 4 (He.ga K "_law_is_ratio") (fdAt K D_law_is_ratio) ["told", "due"] (spIs K) := by
  refine okN T.d_law_is_ratio sc_law_is_ratio (fun vs H Q E h => ?_) (fun cdv A outer s H vs Q E hr h => ?_)
  · obtain ⟨_, _, _, _, rfl, _⟩ := h
    rfl
  · obtain ⟨p, d, t, b, rfl, ⟨dx, fs, hp, f1, f2, f3⟩, hd, ht, hb, k⟩ := h
    refine ⟨_, (pss_cons (ps_set (i := 2) sc_law_is_ratio.nd rfl (Or.inl rfl) (pe_ifExp (pt_cmpR op_eqI (pe_ix ix_tupk (pv 1) pe_int (fun _ _ => rfl)) pe_int (nomark _)) (pe_callTy call_str_int rfl T.n_str (by decide +kernel) (pa_cons (pe_ix ix_tupk (pv 1) pe_int (fun _ _ => rfl)) pa_nil)) (pe_op op_add_str (pe_op op_add_str (pe_callTy call_str_int rfl T.n_str (by decide +kernel) (pa_cons (pe_ix ix_tupk (pv 1) pe_int (fun _ _ => rfl)) pa_nil)) pe_str) (pe_callTy call_str_int rfl T.n_str (by decide +kernel) (pa_cons (pe_ix ix_tupk (pv 1) pe_int (fun _ _ => rfl)) pa_nil)))))
        (pss_one (ps_ret (pe_and (pe_callB isi_k rfl T.n_isinstance (by decide +kernel) (pa_cons (pv 0) (pa_cons (pe_glob (v := .ref _) rfl T.m_Ratio rfl) pa_nil))) (pe_and (pe_call (ok_law_like T 3) (hr.mono (by first | decide | omega)) rfl T.m_law_like T.k_law_like (T.b_law_like) .nil pass0 (pa_cons (pe_tup (pa_cons (pe_fldk (pv 0) rfl) (pa_cons (pe_fldk (pv 0) rfl) pa_nil))) (pa_cons (pv 1) pa_nil))) (pe_one (pe_call (ok_law_like T 3) (hr.mono (by first | decide | omega)) rfl T.m_law_like T.k_law_like (T.b_law_like) .nil pass0 (pa_cons (pe_fldk (pv 0) rfl) (pa_cons (pv 2) pa_nil))))))))), ?_⟩
    refine ⟨_, rfl, d, _, _, _, rfl, rfl, SqT.of hd, rfl, _, _, rfl, rfl, _, rfl, iteD (fun h1 => ?_) (fun h1 => ?_)⟩
    · refine ⟨_, rfl, d, _, _, _, rfl, rfl, SqT.of hd, rfl, _, rfl, log2_1920 ht, ?_⟩
      refine ⟨_, rfl, _, _, _, _, true, rfl, .own _, T.tyR hp, T.kR.1, true, rfl, _, rfl, p, _, dx, fs, _, rfl, hp, T.cl_Ratio, T.na_Ratio_top, f1, _, rfl, p, _, dx, fs, _, rfl, hp, T.cl_Ratio, T.na_Ratio_bottom, f2, szl (n := 2) (by decide), fun q nq => ⟨_, rfl, _, _, rfl, lk_pair upd_same ((upd_ne (ne_of_none hd nq)).trans hd), fun H1 s1 => ?_⟩⟩
      have e1 : Same H H1 := Same.trans (same_mk (Same.refl H) nq) s1
      refine ⟨true, rfl, _, rfl, p, _, dx, fs, _, rfl, (e1 _ _ hp), T.cl_Ratio, T.na_Ratio_text, f3.1, _, rfl, _, _, rfl, ?_, fun H2 s2 => k H2 (Same.trans e1 s2)⟩
      rw [rt, if_pos h1]
      exact lk_str _
    · refine ⟨_, rfl, d, _, _, _, rfl, rfl, SqT.of hd, rfl, _, rfl, log2_1920 ht, _, _, rfl, rfl, ?_, _, rfl, d, _, _, _, rfl, rfl, SqT.of hd, rfl, _, rfl, log2_1920 hb, _, _, rfl, rfl, ?_, ?_⟩
      · exact Nat.le_trans (Nat.add_le_add (ntz ht) (Nat.le_refl _)) (szb (by decide +kernel))
      · rw [Str.length_append]
        exact Nat.le_trans (Nat.add_le_add (Nat.add_le_add (ntz ht) (Nat.le_refl _)) (ntz hb)) (szb (by decide +kernel))
      refine ⟨_, rfl, _, _, _, _, true, rfl, .own _, T.tyR hp, T.kR.1, true, rfl, _, rfl, p, _, dx, fs, _, rfl, hp, T.cl_Ratio, T.na_Ratio_top, f1, _, rfl, p, _, dx, fs, _, rfl, hp, T.cl_Ratio, T.na_Ratio_bottom, f2, szl (n := 2) (by decide), fun q nq => ⟨_, rfl, _, _, rfl, lk_pair upd_same ((upd_ne (ne_of_none hd nq)).trans hd), fun H1 s1 => ?_⟩⟩
      have e1 : Same H H1 := Same.trans (same_mk (Same.refl H) nq) s1
      refine ⟨true, rfl, _, rfl, p, _, dx, fs, _, rfl, (e1 _ _ hp), T.cl_Ratio, T.na_Ratio_text, f3.1, _, rfl, _, _, rfl, ?_, fun H2 s2 => k H2 (Same.trans e1 s2)⟩
      rw [rt, if_neg h1]
      exact lk_str _
end
end Km

set_option Elab.async false
set_option linter.all false
set_option maxRecDepth 100000
set_option maxHeartbeats 4000000
namespace Km
open PySem PySem.Spec PyProof.Rows L2 Lx Dg TL Lo
theorem iteN {p : Prop} [Decidable p] {A B : Prop} (h1 : ¬ p → A) (h2 : p → B) : if (!decide p) = true then A else B := by
  by_cases h : p
  · rw [if_neg (by simp [h])]; exact h2 h
  · rw [if_pos (by simp [h])]; exact h1 h
theorem BagAt.same {H H' : Hp} {p : Addr} (b : BagAt H p) (s : Same H H') : BagAt H' p := by
  obtain ⟨q, cs, i, b, m, k, h1, h2, h3⟩ := b
  exact ⟨q, cs, i, b, m, k, s _ _ h1, s _ _ h2, h3⟩
theorem BagAt.some {H : Hp} {p : Addr} (b : BagAt H p) : ∃ u, H p = some u := by
  obtain ⟨q, cs, i, b, m, k, h1, _⟩ := b
  exact ⟨_, h1⟩
theorem BagAt.ne {H : Hp} {p l : Addr} (b : BagAt H p) (n : H l = none) : l ≠ p := fun e => by
  obtain ⟨u, h⟩ := b.some
  rw [e, h] at n
  cases n
theorem sameB_of {p : Addr} {H H' : Hp} (s : Same H H') : SameB p H H' := ⟨fun b u _ h => s b u h, fun _ l h => ⟨l, s _ _ h⟩⟩
theorem sameB_trans {p : Addr} {H H1 H2 : Hp} (a : SameB p H H1) (b : SameB p H1 H2) : SameB p H H2 := ⟨fun x u hx h => b.k x u hx (a.k x u hx h), fun q l h => by
  obtain ⟨l1, h1⟩ := a.c q l h
  exact b.c q l1 h1⟩
theorem sameB_free {p l : Addr} {H H' : Hp} (s : SameB p H H') (h : H' l = none) (n : l ≠ p) : H l = none := by
  cases e : H l with
  | none => rfl
  | some u => rw [s _ _ n e] at h; cases h
section
variable {P : Program} {w : World} {K : PySem.W.Frag} {mg : Str → Option Value} {base : Heap}
def spNum : Sp := fun vs H Q _ => ∃ p, vs = [.ref p] ∧ BagAt H p ∧ ∀ (n : Int) H', n.natAbs < 2 ^ 200 → SameB p H H' → BagAt H' p → Q (.int n) H'
theorem ok_law_number (T : Txt K mg) : FnOk P w K mg base CX0 3 (He.ga K "_law_number") (fdAt K D_law_number) ["bag"] spNum := by
  refine okN T.d_law_number sc_law_number (fun vs H Q E h => ?_) (fun cdv A outer s H vs Q E hr h => ?_)
  · obtain ⟨_, rfl, _⟩ := h
    rfl
  · obtain ⟨p, rfl, hp, k⟩ := h
    refine ⟨_, (pss_cons (ps_set (i := 1) sc_law_number.nd rfl (Or.inl rfl) (pe_call (ok_law_of T) (hr.mono (by first | decide | omega)) rfl T.m_law_of T.k_law_of (T.b_law_of) .nil pass0 (pa_cons (pv 0) (pa_cons (pe_lst (pa_cons pe_int (pa_cons pe_int (pa_cons pe_int (pa_cons pe_int (pa_cons (pe_op op_pow pe_int pe_int) (pa_cons (pe_op op_pow pe_int pe_int) (pa_cons (pe_op op_pow pe_int pe_int) pa_nil)))))))) pa_nil))))
        (pss_cons (ps_set (i := 2) sc_law_number.nd rfl (Or.inl rfl) (pe_ifExp (pt_cmpR op_lt (pv 1) (pe_op op_pow pe_int pe_int) (nomark _)) (pe_call (ok_law_draw T) (hr.mono (by first | decide | omega)) rfl T.m_law_draw T.k_law_draw (T.b_law_draw) .nil pass0 (pa_cons (pv 0) (pa_cons (pv 1) pa_nil))) (pe_op op_mod (pe_callTy call_int1 rfl T.n_int (by decide +kernel) (pa_cons (pe_op op_add (pe_op op_add (pe_op op_mulW (pe_call (ok_law_draw T) (hr.mono (by first | decide | omega)) rfl T.m_law_draw T.k_law_draw (T.b_law_draw) .nil pass0 (pa_cons (pv 0) (pa_cons (pe_op op_pow pe_int pe_int) pa_nil))) (pe_op op_pow pe_int pe_int)) (pe_op op_mulW (pe_call (ok_law_draw T) (hr.mono (by first | decide | omega)) rfl T.m_law_draw T.k_law_draw (T.b_law_draw) .nil pass0 (pa_cons (pv 0) (pa_cons (pe_op op_pow pe_int pe_int) pa_nil))) (pe_op op_pow pe_int pe_int))) (pe_call (ok_law_draw T) (hr.mono (by first | decide | omega)) rfl T.m_law_draw T.k_law_draw (T.b_law_draw) .nil pass0 (pa_cons (pv 0) (pa_cons pe_int pa_nil)))) pa_nil)) (pv 1))))
        (pss_one (ps_ret (pe_ifExp (pt_cmpR op_gt (pe_call (ok_law_draw T) (hr.mono (by first | decide | omega)) rfl T.m_law_draw T.k_law_draw (T.b_law_draw) .nil pass0 (pa_cons (pv 0) (pa_cons pe_int pa_nil))) pe_int (nomark _)) (pv 2) (pe_op op_sub pe_int (pv 2))))))), ?_⟩
    have fin : ∀ (s n : Int) (H1 : Hp) (D : Ends), D.rt = Q → n.natAbs < 2 ^ 200 → SameB p H H1 → BagAt H1 p →
        tRet (tIf (tTest (tOp (rI0 fun i j => V.bl (decide (j < i))) (tCall spDraw [] E0 (tCons (tVar 0) (tCons (tC (V.int 3)) tNil))) (tC (V.int 0)))) (tVar 2) (tOp (rI0 fun i j => V.int (i - j)) (tC (V.int 0)) (tVar 2))) D [some (.ref p), some (.int s), some (.int n)] H1 := fun s n H1 D eD hn s1 b1 => by
      refine ⟨_, rfl, p, _, rfl, b1, by decide, by decide, fun d H2 d0 d1 s2 b2 => ⟨_, _, rfl, rfl, _, rfl, iteD (fun _ => ?_) (fun _ => ?_)⟩⟩
      · refine ⟨_, rfl, ?_⟩
        rw [eD]
        exact k n H2 hn (sameB_trans s1 s2) b2
      · refine ⟨_, rfl, _, _, rfl, rfl, ?_⟩
        rw [eD]
        exact k (0 - n) H2 (by omega) (sameB_trans s1 s2) b2
    refine ⟨_, rfl, _, _, rfl, rfl, ⟨by decide, by decide, by decide⟩, _, _, rfl, rfl, ⟨by decide, by decide, by decide⟩, _, _, rfl, rfl, ⟨by decide, by decide, by decide⟩, szl (n := 7) (by decide), fun l nl => ⟨p, l, _, rfl, hp.same (same_mk (Same.refl H) nl), upd_same, hp.ne nl, List.cons_ne_nil _ _, by decide, fun i x H1 hx s1 b1 => ?_⟩⟩
    have s0 : SameB p H H1 := sameB_trans (sameB_of (same_mk (Same.refl H) nl)) s1
    obtain ⟨s, rfl, p0, p1⟩ : ∃ s : Int, x = .int s ∧ 0 < s ∧ s ≤ 10 ^ 60 := by
      rcases i with _ | _ | _ | _ | _ | _ | _ | i
      · cases hx; exact ⟨_, rfl, by decide, by decide⟩
      · cases hx; exact ⟨_, rfl, by decide, by decide⟩
      · cases hx; exact ⟨_, rfl, by decide, by decide⟩
      · cases hx; exact ⟨_, rfl, by decide, by decide⟩
      · cases hx; exact ⟨_, rfl, by decide, by decide⟩
      · cases hx; exact ⟨_, rfl, by decide, by decide⟩
      · cases hx; exact ⟨_, rfl, by decide, by decide⟩
      · cases hx
    have p2 : (10 : Int) ^ 60 < 2 ^ 200 := by decide
    refine ⟨_, rfl, _, _, rfl, rfl, ⟨by decide, by decide, by decide⟩, _, _, rfl, rfl, _, rfl, iteD (fun c => ?_) (fun c => ?_)⟩
    · have c' : s < 10 ^ 9 := c
      refine ⟨_, rfl, _, rfl, p, _, rfl, b1, p0, by omega, fun d H2 d0 d1 s2 b2 => ?_⟩
      exact fin s d H2 _ rfl (by omega) (sameB_trans s0 s2) b2
    · refine ⟨_, rfl, _, _, rfl, rfl, ⟨by decide, by decide, by decide⟩, p, _, rfl, b1, by decide, by decide, fun d1 H2 x1 y1 s2 b2 => ⟨_, _, rfl, rfl, ⟨by decide, by decide, by decide⟩, _, _, rfl, rfl, ?_, _, rfl, _, _, rfl, rfl, ⟨by decide, by decide, by decide⟩, p, _, rfl, b2, by decide, by decide, fun d2 H3 x2 y2 s3 b3 => ⟨_, _, rfl, rfl, ⟨by decide, by decide, by decide⟩, _, _, rfl, rfl, ?_, _, _, rfl, rfl, _, rfl, p, _, rfl, b3, by decide, by decide, fun d3 H4 x3 y3 s4 b4 => ⟨_, _, rfl, rfl, .inl ⟨_, rfl, _, rfl, _, _, rfl, rfl, p0, ?_⟩⟩⟩⟩⟩
      · have y1' : d1 < 10 ^ 9 := y1
        exact wide_mul (a := 64) (b := 200) (by omega) (by decide) (by decide) (by decide) (by decide)
      · have y2' : d2 < 10 ^ 9 := y2
        exact wide_mul (a := 64) (b := 200) (by omega) (by decide) (by decide) (by decide) (by decide)
      · have e0 := Int.emod_nonneg (d1 * (1000003 : Int) ^ (7 : Int).toNat + d2 * (7919 : Int) ^ (3 : Int).toNat + d3) (show s ≠ 0 by omega)
        have e1 := Int.emod_lt_of_pos (d1 * (1000003 : Int) ^ (7 : Int).toNat + d2 * (7919 : Int) ^ (3 : Int).toNat + d3) p0
        exact fin s _ H4 _ rfl (by omega) (sameB_trans s0 (sameB_trans s2 (sameB_trans s3 s4))) b4
def spPair : Sp := fun vs H Q _ => ∃ p, vs = [.ref p] ∧ BagAt H p ∧ ∀ (u d : Int) q H', d ≠ 0 → u.natAbs < 2 ^ 210 → d.natAbs < 2 ^ 210 → SameB p H H' → BagAt H' p → H q = none → H' q = some (.tup [.int u, .int d]) → Q (.ref q) H'
theorem ok_law_pair (T : Txt K mg) : FnOk P w K mg base CX0 4 (He.ga K "_law_pair") (fdAt K D_law_pair) ["bag"] spPair := by
  refine okN T.d_law_pair sc_law_pair (fun vs H Q E h => ?_) (fun cdv A outer s H vs Q E hr h => ?_)
  · obtain ⟨_, rfl, _⟩ := h
    rfl
  · obtain ⟨p, rfl, hp, k⟩ := h
    refine ⟨_, (pss_cons (ps_par (i := 1) (j := 2) rfl sc_law_pair.nd rfl rfl (by decide) rfl rfl (pa_cons (pe_call (ok_law_number T) (hr.mono (by first | decide | omega)) rfl T.m_law_number T.k_law_number (T.b_law_number) .nil pass0 (pa_cons (pv 0) pa_nil)) (pa_cons (pe_call (ok_law_number T) (hr.mono (by first | decide | omega)) rfl T.m_law_number T.k_law_number (T.b_law_number) .nil pass0 (pa_cons (pv 0) pa_nil)) pa_nil)) (by rfl))
        (pss_cut (ps_if (pt_cmpR op_eqI (pe_call (ok_law_draw T) (hr.mono (by first | decide | omega)) rfl T.m_law_draw T.k_law_draw (T.b_law_draw) .nil pass0 (pa_cons (pv 0) (pa_cons pe_int pa_nil))) pe_int (nomark _)) (pss_cons (ps_set (i := 3) sc_law_pair.nd rfl (Or.inl rfl) (pe_op op_add pe_int (pe_call (ok_law_draw T) (hr.mono (by first | decide | omega)) rfl T.m_law_draw T.k_law_draw (T.b_law_draw) .nil pass0 (pa_cons (pv 0) (pa_cons pe_int pa_nil)))))
        (pss_one (ps_par (i := 1) (j := 2) rfl sc_law_pair.nd rfl rfl (by decide) rfl rfl (pa_cons (pe_op op_mulW (pv 1) (pv 3)) (pa_cons (pe_op op_mulW (pv 2) (pv 3)) pa_nil)) (by rfl)))) pss_nil)
        (pss_cut (ps_if (pt_cmpR op_eqI (pe_call (ok_law_draw T) (hr.mono (by first | decide | omega)) rfl T.m_law_draw T.k_law_draw (T.b_law_draw) .nil pass0 (pa_cons (pv 0) (pa_cons pe_int pa_nil))) pe_int (nomark _)) (pss_one (ps_set (i := 1) sc_law_pair.nd rfl (Or.inl rfl) (pv 2))) pss_nil)
        (pss_one (ps_ret (pe_tup (pa_cons (pv 1) (pa_cons (pe_ifExp (pt_cmpR op_neI (pv 2) pe_int (nomark _)) (pv 2) (pe_call (ok_law_of T) (hr.mono (by first | decide | omega)) rfl T.m_law_of T.k_law_of (T.b_law_of) .nil pass0 (pa_cons (pv 0) (pa_cons (pe_lst (pa_cons pe_int (pa_cons (pe_un un_neg pe_int) (pa_cons pe_int pa_nil)))) pa_nil)))) pa_nil)))))))), ?_⟩
    have m60 : ∀ {a c : Int}, a.natAbs < 2 ^ 200 → 0 ≤ c → c < 60 → (a * (1 + c)).natAbs < 2 ^ 207 ∧ CMulW a (1 + c) := fun {a c} h1 h2 h3 => by
      refine ⟨?_, wide_mul (a := 200) (b := 64) h1 (by omega) (by decide) (by decide) (by decide)⟩
      rw [Int.natAbs_mul]
      exact Nat.lt_of_le_of_lt (Nat.mul_le_mul (Nat.le_of_lt h1) (show (1 + c).natAbs ≤ 60 by omega)) (by decide)
    refine ⟨_, rfl, p, rfl, hp, fun n1 H1 z1 s1 b1 => ⟨_, rfl, p, rfl, b1, fun n2 H2 z2 s2 b2 => ⟨_, _, rfl, fun σ' H' => ∃ (u d : Int) (v : Option V), σ' = [some (.ref p), some (.int u), some (.int d), v] ∧ (u.natAbs < 2 ^ 207 ∧ d.natAbs < 2 ^ 207) ∧ SameB p H H' ∧ BagAt H' p, ?_, ?_⟩⟩⟩
    · have e0 := sameB_trans s1 s2
      refine ⟨_, rfl, p, _, rfl, b2, by decide, by decide, fun d0 H3 x0 y0 s3 b3 => ⟨_, _, rfl, rfl, _, rfl, iteD (fun _ => ?_) (fun _ => ?_)⟩⟩
      · refine ⟨_, rfl, p, _, rfl, b3, by decide, by decide, fun c H4 x1 y1 s4 b4 => ⟨_, _, rfl, rfl, ?_⟩⟩
        refine ⟨_, rfl, _, rfl, _, _, rfl, rfl, (m60 z1 x1 y1).2, _, rfl, _, rfl, _, _, rfl, rfl, (m60 z2 x1 y1).2, _, _, rfl, _, _, _, rfl, ⟨(m60 z1 x1 y1).1, (m60 z2 x1 y1).1⟩, sameB_trans e0 (sameB_trans s3 s4), b4⟩
      · exact ⟨_, _, _, rfl, ⟨Nat.lt_trans z1 (by decide), Nat.lt_trans z2 (by decide)⟩, sameB_trans e0 s3, b3⟩
    · rintro σ1 H3 ⟨u, d, v, rfl, ⟨zu, zd⟩, s3, b3⟩
      refine ⟨fun σ' H' => ∃ (u d : Int) (v : Option V), σ' = [some (.ref p), some (.int u), some (.int d), v] ∧ (u.natAbs < 2 ^ 207 ∧ d.natAbs < 2 ^ 207) ∧ SameB p H H' ∧ BagAt H' p, ?_, ?_⟩
      · refine ⟨_, rfl, p, _, rfl, b3, by decide, by decide, fun d0 H4 x0 y0 s4 b4 => ⟨_, _, rfl, rfl, _, rfl, iteD (fun _ => ?_) (fun _ => ?_)⟩⟩
        · exact ⟨_, rfl, _, _, _, rfl, ⟨zd, zd⟩, sameB_trans s3 s4, b4⟩
        · exact ⟨_, _, _, rfl, ⟨zu, zd⟩, sameB_trans s3 s4, b4⟩
      · rintro σ2 H4 ⟨u, d, v, rfl, ⟨zu, zd⟩, s4, b4⟩
        have fin : ∀ (d : Int) (H5 : Hp), d ≠ 0 → d.natAbs < 2 ^ 207 → SameB p H H5 → BagAt H5 p → ([V.int u, V.int d].length ≤ sizeLine ∧ ∀ q, H5 q = none → Q (.ref q) (upd H5 q (.tup [.int u, .int d]))) := fun d H5 hd zd s5 b5 =>
          ⟨szl (n := 2) (by decide), fun q nq => k u d q _ hd (Nat.lt_trans zu (by decide)) (Nat.lt_trans zd (by decide)) (sameB_trans s5 (sameB_of (same_mk (Same.refl H5) nq))) (b5.same (same_mk (Same.refl H5) nq)) (sameB_free s5 nq (b5.ne nq)) upd_same⟩
        refine ⟨_, rfl, _, rfl, _, _, rfl, rfl, _, rfl, iteN (fun c => ?_) (fun c => ?_)⟩
        · exact ⟨_, rfl, fin d H4 c zd s4 b4⟩
        · refine ⟨_, rfl, _, rfl, szl (n := 3) (by decide), fun l nl => ⟨p, l, _, rfl, b4.same (same_mk (Same.refl H4) nl), upd_same, b4.ne nl, List.cons_ne_nil _ _, by decide, fun i x H5 hx s5 b5 => ?_⟩⟩
          have s6 := sameB_trans s4 (sameB_trans (sameB_of (same_mk (Same.refl H4) nl)) s5)
          rcases i with _ | _ | _ | i
          · cases hx; exact fin 1 H5 (by decide) (by decide) s6 b5
          · cases hx; exact fin (-1) H5 (by decide) (by decide) s6 b5
          · cases hx; exact fin 2 H5 (by decide) (by decide) s6 b5
          · cases hx
end
end Km

set_option Elab.async false
set_option linter.all false
set_option maxRecDepth 100000
set_option maxHeartbeats 4000000
namespace Km
open PySem PySem.Spec PyProof.Rows L2 Lx Dg TL Lo
theorem eqv_pair (a0 a1 b0 b1 : Int) : PyData.eqv (.tuple [.int a0, .int a1]) (.tuple [.int b0, .int b1]) = decide (a0 = b0 ∧ a1 = b1) := by
  show (a0 == b0 && (a1 == b1 && true)) = _
  by_cases h1 : a0 = b0 <;> by_cases h2 : a1 = b1 <;> simp [h1, h2]
section
variable {P : Program} {w : World} {K : PySem.W.Frag} {mg : Str → Option Value} {base : Heap}
def spPR (K : PySem.W.Frag) : Sp := fun vs H Q _ => ∃ (o1 o2 ra rb : Addr) (a0 a1 b0 b1 : Int), vs = [.ref o1, .ref o2, .ref ra, .ref rb] ∧ (RatAt K H o1 a0 a1 ∧ RatAt K H o2 b0 b1 ∧ H ra = some (.tup [.int a0, .int a1]) ∧ H rb = some (.tup [.int b0, .int b1])) ∧ (a1 ≠ 0 ∧ b1 ≠ 0) ∧
  (a0.natAbs < 2 ^ 900 ∧ a1.natAbs < 2 ^ 900 ∧ b0.natAbs < 2 ^ 900 ∧ b1.natAbs < 2 ^ 900) ∧ ∀ H', Same H H' → Q (.bl true) H'
theorem ok_law_pairs_right (T : Txt K mg) : FnOk P w K mg base CX0 7 (He.ga K "_law_pairs_right") (fdAt K D_law_pairs_right) ["one", "other", "a", "b"] (spPR K) := by
  refine okN T.d_law_pairs_right sc_law_pairs_right (fun vs H Q E h => ?_) (fun cdv A outer s H vs Q E hr h => ?_)
  · obtain ⟨_, _, _, _, _, _, _, _, rfl, _⟩ := h
    rfl
  · obtain ⟨o1, o2, ra, rb, a0, a1, b0, b1, rfl, ⟨r1, r2, ha, hb⟩, ⟨n1, n2⟩, ⟨s1, s2, s3, s4⟩, k⟩ := h
    refine ⟨_, (pss_cons (ps_if (pt_not (pt_val (pe_call (ok_law_is_ratio T) (hr.mono (by first | decide | omega)) rfl T.m_law_is_ratio T.k_law_is_ratio (T.b_law_is_ratio) .nil pass0 (pa_cons (pe_op (op_ownB T.o_add (ok_Ratio__add T) (hr.mono (by first | decide | omega)) T.b_Ratio__add pass0) (pv 0) (pv 1)) (pa_cons (pe_call (ok_law_lowest T) (hr.mono (by first | decide | omega)) rfl T.m_law_lowest T.k_law_lowest (T.b_law_lowest) .nil pass0 (pa_cons (pe_op op_add (pe_op op_mulW (pe_ix ix_tupk (pv 2) pe_int (fun _ _ => rfl)) (pe_ix ix_tupk (pv 3) pe_int (fun _ _ => rfl))) (pe_op op_mulW (pe_ix ix_tupk (pv 3) pe_int (fun _ _ => rfl)) (pe_ix ix_tupk (pv 2) pe_int (fun _ _ => rfl)))) (pa_cons (pe_op op_mulW (pe_ix ix_tupk (pv 2) pe_int (fun _ _ => rfl)) (pe_ix ix_tupk (pv 3) pe_int (fun _ _ => rfl))) pa_nil))) pa_nil))))) (pss_one (ps_ret pe_bl)) pss_nil)
        (pss_cons (ps_if (pt_not (pt_val (pe_call (ok_law_is_ratio T) (hr.mono (by first | decide | omega)) rfl T.m_law_is_ratio T.k_law_is_ratio (T.b_law_is_ratio) .nil pass0 (pa_cons (pe_op (op_ownB T.o_sub (ok_Ratio__sub T) (hr.mono (by first | decide | omega)) T.b_Ratio__sub pass0) (pv 0) (pv 1)) (pa_cons (pe_call (ok_law_lowest T) (hr.mono (by first | decide | omega)) rfl T.m_law_lowest T.k_law_lowest (T.b_law_lowest) .nil pass0 (pa_cons (pe_op op_sub (pe_op op_mulW (pe_ix ix_tupk (pv 2) pe_int (fun _ _ => rfl)) (pe_ix ix_tupk (pv 3) pe_int (fun _ _ => rfl))) (pe_op op_mulW (pe_ix ix_tupk (pv 3) pe_int (fun _ _ => rfl)) (pe_ix ix_tupk (pv 2) pe_int (fun _ _ => rfl)))) (pa_cons (pe_op op_mulW (pe_ix ix_tupk (pv 2) pe_int (fun _ _ => rfl)) (pe_ix ix_tupk (pv 3) pe_int (fun _ _ => rfl))) pa_nil))) pa_nil))))) (pss_one (ps_ret pe_bl)) pss_nil)
        (pss_cons (ps_if (pt_not (pt_val (pe_call (ok_law_is_ratio T) (hr.mono (by first | decide | omega)) rfl T.m_law_is_ratio T.k_law_is_ratio (T.b_law_is_ratio) .nil pass0 (pa_cons (pe_op (op_ownB T.o_mul (ok_Ratio__mul T) (hr.mono (by first | decide | omega)) T.b_Ratio__mul pass0) (pv 0) (pv 1)) (pa_cons (pe_call (ok_law_lowest T) (hr.mono (by first | decide | omega)) rfl T.m_law_lowest T.k_law_lowest (T.b_law_lowest) .nil pass0 (pa_cons (pe_op op_mulW (pe_ix ix_tupk (pv 2) pe_int (fun _ _ => rfl)) (pe_ix ix_tupk (pv 3) pe_int (fun _ _ => rfl))) (pa_cons (pe_op op_mulW (pe_ix ix_tupk (pv 2) pe_int (fun _ _ => rfl)) (pe_ix ix_tupk (pv 3) pe_int (fun _ _ => rfl))) pa_nil))) pa_nil))))) (pss_one (ps_ret pe_bl)) pss_nil)
        (pss_cons (ps_if (pt_not (pt_val (pe_call (ok_law_like T 3) (hr.mono (by first | decide | omega)) rfl T.m_law_like T.k_law_like (T.b_law_like) .nil pass0 (pa_cons (pe_meth (pv 0) T.cl_Ratio T.me_Ratio_is_less (ok_Ratio_is_less T) (hr.mono (by first | decide | omega)) (T.b_Ratio_is_less) .nil pass0 (pa_cons (pv 1) pa_nil)) (pa_cons (pe_cmpR op_lt (pe_op op_mulW (pe_ix ix_tupk (pv 2) pe_int (fun _ _ => rfl)) (pe_ix ix_tupk (pv 3) pe_int (fun _ _ => rfl))) (pe_op op_mulW (pe_ix ix_tupk (pv 3) pe_int (fun _ _ => rfl)) (pe_ix ix_tupk (pv 2) pe_int (fun _ _ => rfl))) (nomark _)) pa_nil))))) (pss_one (ps_ret pe_bl)) pss_nil)
        (pss_one (ps_ret (pe_and (pe_call (ok_law_like T 3) (hr.mono (by first | decide | omega)) rfl T.m_law_like T.k_law_like (T.b_law_like) .nil pass0 (pa_cons (pe_cmpR (op_ownE T.o_eq (ok_Ratio__eq T) (hr.mono (by first | decide | omega)) T.b_Ratio__eq pass0) (pv 0) (pv 1) (nomark _)) (pa_cons (pe_cmpR (op_eqD hr.units) (pv 2) (pv 3) (nomark _)) pa_nil))) (pe_and (pe_call (ok_law_is_ratio T) (hr.mono (by first | decide | omega)) rfl T.m_law_is_ratio T.k_law_is_ratio (T.b_law_is_ratio) .nil pass0 (pa_cons (pv 0) (pa_cons (pv 2) pa_nil))) (pe_one (pe_call (ok_law_is_ratio T) (hr.mono (by first | decide | omega)) rfl T.m_law_is_ratio T.k_law_is_ratio (T.b_law_is_ratio) .nil pass0 (pa_cons (pv 1) (pa_cons (pv 3) pa_nil)))))))))))), ?_⟩
    have t0 := Same.refl H
    obtain ⟨dx1, fs1, hp1, _⟩ := id (r1.same t0)
    obtain ⟨dy1, gs1, hq1, _⟩ := id (r2.same t0)
    refine ⟨_, rfl, _, rfl, o1, dx1, fs1, rfl, hp1, .inl ⟨o2, dy1, gs1, rfl, hq1⟩, o1, .ref o2, a0, a1, b0, b1, rfl, r1.same t0, .inr ⟨o2, rfl, r2.same t0⟩, ⟨n1, n2⟩, ⟨s1, s2, s3, s4⟩, fun x1 G1 e1 nx1 rx1 => ?_⟩
    have u1 := Same.trans t0 e1
    have ha1 := u1 _ _ ha
    have hb1 := u1 _ _ hb
    refine ⟨_, rfl, ra, _, _, _, rfl, rfl, SqT.of ha1, rfl, _, rfl, rb, _, _, _, rfl, rfl, SqT.of hb1, rfl, _, _, rfl, rfl, mw s1 s4, _, rfl, rb, _, _, _, rfl, rfl, SqT.of hb1, rfl, _, rfl, ra, _, _, _, rfl, rfl, SqT.of ha1, rfl, _, _, rfl, rfl, mw s3 s2, _, _, rfl, rfl, _, rfl, ra, _, _, _, rfl, rfl, SqT.of ha1, rfl, _, rfl, rb, _, _, _, rfl, rfl, SqT.of hb1, rfl, _, _, rfl, rfl, mw s2 s4, _, _, rfl, Int.mul_ne_zero n1 n2, (s900 s1 s4 s3 s2).1, m900 s2 s4, fun q1 J1 f1 nq1 hq'1 => ?_⟩
    refine ⟨_, _, _, _, rfl, rx1.same f1, hq'1, Nat.lt_of_le_of_lt (lowT_le (Int.mul_ne_zero n1 n2)) ((s900 s1 s4 s3 s2).1), Nat.lt_of_le_of_lt (lowB_le (Int.mul_ne_zero n1 n2)) (m900 s2 s4), fun L1 g1 => ⟨true, rfl, ?_⟩⟩
    have t1 := Same.trans u1 (Same.trans f1 g1)
    obtain ⟨dx2, fs2, hp2, _⟩ := id (r1.same t1)
    obtain ⟨dy2, gs2, hq2, _⟩ := id (r2.same t1)
    refine ⟨_, rfl, _, rfl, o1, dx2, fs2, rfl, hp2, .inl ⟨o2, dy2, gs2, rfl, hq2⟩, o1, .ref o2, a0, a1, b0, b1, rfl, r1.same t1, .inr ⟨o2, rfl, r2.same t1⟩, ⟨n1, n2⟩, ⟨s1, s2, s3, s4⟩, fun x2 G2 e2 nx2 rx2 => ?_⟩
    have u2 := Same.trans t1 e2
    have ha2 := u2 _ _ ha
    have hb2 := u2 _ _ hb
    refine ⟨_, rfl, ra, _, _, _, rfl, rfl, SqT.of ha2, rfl, _, rfl, rb, _, _, _, rfl, rfl, SqT.of hb2, rfl, _, _, rfl, rfl, mw s1 s4, _, rfl, rb, _, _, _, rfl, rfl, SqT.of hb2, rfl, _, rfl, ra, _, _, _, rfl, rfl, SqT.of ha2, rfl, _, _, rfl, rfl, mw s3 s2, _, _, rfl, rfl, _, rfl, ra, _, _, _, rfl, rfl, SqT.of ha2, rfl, _, rfl, rb, _, _, _, rfl, rfl, SqT.of hb2, rfl, _, _, rfl, rfl, mw s2 s4, _, _, rfl, Int.mul_ne_zero n1 n2, (s900 s1 s4 s3 s2).2, m900 s2 s4, fun q2 J2 f2 nq2 hq'2 => ?_⟩
    refine ⟨_, _, _, _, rfl, rx2.same f2, hq'2, Nat.lt_of_le_of_lt (lowT_le (Int.mul_ne_zero n1 n2)) ((s900 s1 s4 s3 s2).2), Nat.lt_of_le_of_lt (lowB_le (Int.mul_ne_zero n1 n2)) (m900 s2 s4), fun L2 g2 => ⟨true, rfl, ?_⟩⟩
    have t2 := Same.trans u2 (Same.trans f2 g2)
    obtain ⟨dx3, fs3, hp3, _⟩ := id (r1.same t2)
    obtain ⟨dy3, gs3, hq3, _⟩ := id (r2.same t2)
    refine ⟨_, rfl, _, rfl, o1, dx3, fs3, rfl, hp3, .inl ⟨o2, dy3, gs3, rfl, hq3⟩, o1, .ref o2, a0, a1, b0, b1, rfl, r1.same t2, .inr ⟨o2, rfl, r2.same t2⟩, ⟨n1, n2⟩, ⟨s1, s2, s3, s4⟩, fun x3 G3 e3 nx3 rx3 => ?_⟩
    have u3 := Same.trans t2 e3
    have ha3 := u3 _ _ ha
    have hb3 := u3 _ _ hb
    refine ⟨_, rfl, ra, _, _, _, rfl, rfl, SqT.of ha3, rfl, _, rfl, rb, _, _, _, rfl, rfl, SqT.of hb3, rfl, _, _, rfl, rfl, mw s1 s3, _, rfl, ra, _, _, _, rfl, rfl, SqT.of ha3, rfl, _, rfl, rb, _, _, _, rfl, rfl, SqT.of hb3, rfl, _, _, rfl, rfl, mw s2 s4, _, _, rfl, Int.mul_ne_zero n1 n2, m900 s1 s3, m900 s2 s4, fun q3 J3 f3 nq3 hq'3 => ?_⟩
    refine ⟨_, _, _, _, rfl, rx3.same f3, hq'3, Nat.lt_of_le_of_lt (lowT_le (Int.mul_ne_zero n1 n2)) (m900 s1 s3), Nat.lt_of_le_of_lt (lowB_le (Int.mul_ne_zero n1 n2)) (m900 s2 s4), fun L3 g3 => ⟨true, rfl, ?_⟩⟩
    have t3 := Same.trans u3 (Same.trans f3 g3)
    obtain ⟨dx4, fs4, hp4, _, _, _, hl4⟩ := id (r1.same t3)
    refine ⟨_, rfl, o1, dx4, fs4, rfl, hp4, hl4, _, rfl, o1, .ref o2, a0, a1, b0, b1, rfl, r1.same t3, .inr ⟨o2, rfl, r2.same t3⟩, ⟨s1, s2, s3, s4⟩, fun G4 e4 => ?_⟩
    have u4 := Same.trans t3 e4
    have ha4 := u4 _ _ ha
    have hb4 := u4 _ _ hb
    refine ⟨_, rfl, ra, _, _, _, rfl, rfl, SqT.of ha4, rfl, _, rfl, rb, _, _, _, rfl, rfl, SqT.of hb4, rfl, _, _, rfl, rfl, mw s1 s4, _, rfl, rb, _, _, _, rfl, rfl, SqT.of hb4, rfl, _, rfl, ra, _, _, _, rfl, rfl, SqT.of ha4, rfl, _, _, rfl, rfl, mw s3 s2, _, _, rfl, rfl, _, _, rfl, lk_bl _, fun L4 g4 => ⟨true, rfl, ?_⟩⟩
    have t4 := Same.trans u4 g4
    obtain ⟨dx5, fs5, hp5, _⟩ := id (r1.same t4)
    obtain ⟨dy5, gs5, hq5, _⟩ := id (r2.same t4)
    have ha5 := t4 _ _ ha
    have hb5 := t4 _ _ hb
    refine ⟨_, rfl, _, rfl, o1, dx5, fs5, rfl, hp5, .inl ⟨o2, dy5, gs5, rfl, hq5⟩, o1, .ref o2, a0, a1, rfl, r1.same t4, .inl ⟨o2, b0, b1, rfl, r2.same t4, ?_⟩⟩
    refine ⟨_, rfl, _, rfl, _, _, .tup (SqT.of ha5) (.cons (.int _) (.cons (.int _) .nil)), .tup (SqT.of hb5) (.cons (.int _) (.cons (.int _) .nil)), by rfl, by rfl, _, _, rfl, ?_, fun L5 g5 => ⟨true, rfl, ?_⟩⟩
    · rw [eqv_pair]
      exact lk_bl _
    have t5 := Same.trans t4 g5
    refine ⟨_, rfl, _, rfl, o1, ra, a0, a1, rfl, r1.same t5, t5 _ _ ha, Nat.lt_trans s1 (by decide +kernel), Nat.lt_trans s2 (by decide +kernel), fun L6 g6 => ⟨true, rfl, ?_⟩⟩
    have t6 := Same.trans t5 g6
    exact ⟨_, rfl, _, rfl, o2, rb, b0, b1, rfl, r2.same t6, t6 _ _ hb, Nat.lt_trans s3 (by decide +kernel), Nat.lt_trans s4 (by decide +kernel), fun L7 g7 => k L7 (Same.trans t6 g7)⟩
def spNR (K : PySem.W.Frag) : Sp := fun vs H Q _ => ∃ (o1 ra : Addr) (a0 a1 n : Int), vs = [.ref o1, .ref ra, .int n] ∧ (RatAt K H o1 a0 a1 ∧ H ra = some (.tup [.int a0, .int a1])) ∧ a1 ≠ 0 ∧ (a0.natAbs < 2 ^ 900 ∧ a1.natAbs < 2 ^ 900 ∧ n.natAbs < 2 ^ 900) ∧ ∀ H', Same H H' → Q (.bl true) H'
theorem ok_law_numbers_right (T : Txt K mg) : FnOk P w K mg base CX0 7 (He.ga K "_law_numbers_right") (fdAt K D_law_numbers_right) ["one", "a", "number"] (spNR K) := by
  refine okN T.d_law_numbers_right sc_law_numbers_right (fun vs H Q E h => ?_) (fun cdv A outer s H vs Q E hr h => ?_)
  · obtain ⟨_, _, _, _, _, rfl, _⟩ := h
    rfl
  · obtain ⟨o1, ra, a0, a1, n, rfl, ⟨r1, ha⟩, n1, ⟨s1, s2, s3⟩, k⟩ := h
    refine ⟨_, (pss_cons (ps_if (PW.pt (pw_or (pt_not (pt_val (pe_call (ok_law_is_ratio T) (hr.mono (by first | decide | omega)) rfl T.m_law_is_ratio T.k_law_is_ratio (T.b_law_is_ratio) .nil pass0 (pa_cons (pe_op (op_ownB T.o_add (ok_Ratio__add T) (hr.mono (by first | decide | omega)) T.b_Ratio__add pass0) (pv 0) (pv 2)) (pa_cons (pe_call (ok_law_lowest T) (hr.mono (by first | decide | omega)) rfl T.m_law_lowest T.k_law_lowest (T.b_law_lowest) .nil pass0 (pa_cons (pe_op op_add (pe_ix ix_tupk (pv 1) pe_int (fun _ _ => rfl)) (pe_op op_mulW (pv 2) (pe_ix ix_tupk (pv 1) pe_int (fun _ _ => rfl)))) (pa_cons (pe_ix ix_tupk (pv 1) pe_int (fun _ _ => rfl)) pa_nil))) pa_nil))))) (pw_or1 (pt_not (pt_val (pe_call (ok_law_is_ratio T) (hr.mono (by first | decide | omega)) rfl T.m_law_is_ratio T.k_law_is_ratio (T.b_law_is_ratio) .nil pass0 (pa_cons (pe_op (op_ownB T.o_sub (ok_Ratio__sub T) (hr.mono (by first | decide | omega)) T.b_Ratio__sub pass0) (pv 0) (pv 2)) (pa_cons (pe_call (ok_law_lowest T) (hr.mono (by first | decide | omega)) rfl T.m_law_lowest T.k_law_lowest (T.b_law_lowest) .nil pass0 (pa_cons (pe_op op_sub (pe_ix ix_tupk (pv 1) pe_int (fun _ _ => rfl)) (pe_op op_mulW (pv 2) (pe_ix ix_tupk (pv 1) pe_int (fun _ _ => rfl)))) (pa_cons (pe_ix ix_tupk (pv 1) pe_int (fun _ _ => rfl)) pa_nil))) pa_nil)))))))) (pss_one (ps_ret pe_bl)) pss_nil)
        (pss_cons (ps_if (pt_not (pt_val (pe_call (ok_law_is_ratio T) (hr.mono (by first | decide | omega)) rfl T.m_law_is_ratio T.k_law_is_ratio (T.b_law_is_ratio) .nil pass0 (pa_cons (pe_op (op_ownB T.o_mul (ok_Ratio__mul T) (hr.mono (by first | decide | omega)) T.b_Ratio__mul pass0) (pv 0) (pv 2)) (pa_cons (pe_call (ok_law_lowest T) (hr.mono (by first | decide | omega)) rfl T.m_law_lowest T.k_law_lowest (T.b_law_lowest) .nil pass0 (pa_cons (pe_op op_mulW (pe_ix ix_tupk (pv 1) pe_int (fun _ _ => rfl)) (pv 2)) (pa_cons (pe_ix ix_tupk (pv 1) pe_int (fun _ _ => rfl)) pa_nil))) pa_nil))))) (pss_one (ps_ret pe_bl)) pss_nil)
        (pss_cons (ps_if (PW.pt (pw_or (pt_not (pt_val (pe_call (ok_law_like T 3) (hr.mono (by first | decide | omega)) rfl T.m_law_like T.k_law_like (T.b_law_like) .nil pass0 (pa_cons (pe_meth (pv 0) T.cl_Ratio T.me_Ratio_is_less (ok_Ratio_is_less T) (hr.mono (by first | decide | omega)) (T.b_Ratio_is_less) .nil pass0 (pa_cons (pv 2) pa_nil)) (pa_cons (pe_cmpR op_lt (pe_ix ix_tupk (pv 1) pe_int (fun _ _ => rfl)) (pe_op op_mulW (pv 2) (pe_ix ix_tupk (pv 1) pe_int (fun _ _ => rfl))) (nomark _)) pa_nil))))) (pw_or (pt_cmpR (op_ownE T.o_eq (ok_Ratio__eq T) (hr.mono (by first | decide | omega)) T.b_Ratio__eq pass0) (pv 0) (pv 2) (nomark _)) (pw_or1 (pt_cmpR (op_ownE T.o_eq (ok_Ratio__eq T) (hr.mono (by first | decide | omega)) T.b_Ratio__eq pass0) (pv 0) (pe_callTy call_str_int rfl T.n_str (by decide +kernel) (pa_cons (pv 2) pa_nil)) (nomark _)))))) (pss_one (ps_ret pe_bl)) pss_nil)
        (pss_one (ps_ret (pe_call (ok_law_is_ratio T) (hr.mono (by first | decide | omega)) rfl T.m_law_is_ratio T.k_law_is_ratio (T.b_law_is_ratio) .nil pass0 (pa_cons (pv 0) (pa_cons (pv 1) pa_nil)))))))), ?_⟩
    have t0 := Same.refl H
    have s2' : a1.natAbs < 2 ^ 1900 := Nat.lt_trans s2 (by decide +kernel)
    have o900 : (1 : Int).natAbs < 2 ^ 900 := by decide +kernel
    have zadd : (a0 + n * a1).natAbs < 2 ^ 1900 := by have z := (s900 s1 o900 s3 s2).1; rw [Int.mul_one] at z; exact z
    have zsub : (a0 - n * a1).natAbs < 2 ^ 1900 := by have z := (s900 s1 o900 s3 s2).2; rw [Int.mul_one] at z; exact z
    obtain ⟨dx1, fs1, hp1, _⟩ := id (r1.same t0)
    refine ⟨_, rfl, _, rfl, o1, dx1, fs1, rfl, hp1, .inr ⟨n, rfl⟩, o1, .int n, a0, a1, n, 1, rfl, r1.same t0, .inl ⟨rfl, rfl⟩, ⟨n1, by decide⟩, ⟨s1, s2, s3, by decide +kernel⟩, fun x1 G1 e1 nx1 rx1 => ?_⟩
    have rx1 : RatAt K G1 x1 (lowT (a0 + n * a1) a1) (lowB (a0 + n * a1) a1) := by
      have z : RatAt K G1 x1 (lowT (a0 * 1 + n * a1) (a1 * 1)) (lowB (a0 * 1 + n * a1) (a1 * 1)) := rx1
      simp only [Int.mul_one] at z
      exact z
    have u1 := Same.trans t0 e1
    have ha1 := u1 _ _ ha
    refine ⟨_, rfl, ra, _, _, _, rfl, rfl, SqT.of ha1, rfl, _, rfl, _, rfl, ra, _, _, _, rfl, rfl, SqT.of ha1, rfl, _, _, rfl, rfl, mw s3 s2, _, _, rfl, rfl, _, rfl, ra, _, _, _, rfl, rfl, SqT.of ha1, rfl, _, _, rfl, n1, zadd, s2', fun q1 J1 f1 nq1 hq'1 => ?_⟩
    refine ⟨_, _, _, _, rfl, rx1.same f1, hq'1, Nat.lt_of_le_of_lt (lowT_le n1) (zadd), Nat.lt_of_le_of_lt (lowB_le n1) s2', fun L1 g1 => ⟨true, rfl, ?_⟩⟩
    have t1 := Same.trans u1 (Same.trans f1 g1)
    obtain ⟨dx2, fs2, hp2, _⟩ := id (r1.same t1)
    refine ⟨_, rfl, _, rfl, o1, dx2, fs2, rfl, hp2, .inr ⟨n, rfl⟩, o1, .int n, a0, a1, n, 1, rfl, r1.same t1, .inl ⟨rfl, rfl⟩, ⟨n1, by decide⟩, ⟨s1, s2, s3, by decide +kernel⟩, fun x2 G2 e2 nx2 rx2 => ?_⟩
    have rx2 : RatAt K G2 x2 (lowT (a0 - n * a1) a1) (lowB (a0 - n * a1) a1) := by
      have z : RatAt K G2 x2 (lowT (a0 * 1 - n * a1) (a1 * 1)) (lowB (a0 * 1 - n * a1) (a1 * 1)) := rx2
      simp only [Int.mul_one] at z
      exact z
    have u2 := Same.trans t1 e2
    have ha2 := u2 _ _ ha
    refine ⟨_, rfl, ra, _, _, _, rfl, rfl, SqT.of ha2, rfl, _, rfl, _, rfl, ra, _, _, _, rfl, rfl, SqT.of ha2, rfl, _, _, rfl, rfl, mw s3 s2, _, _, rfl, rfl, _, rfl, ra, _, _, _, rfl, rfl, SqT.of ha2, rfl, _, _, rfl, n1, zsub, s2', fun q2 J2 f2 nq2 hq'2 => ?_⟩
    refine ⟨_, _, _, _, rfl, rx2.same f2, hq'2, Nat.lt_of_le_of_lt (lowT_le n1) (zsub), Nat.lt_of_le_of_lt (lowB_le n1) s2', fun L2 g2 => ⟨true, rfl, ?_⟩⟩
    have t2 := Same.trans u2 (Same.trans f2 g2)
    obtain ⟨dx3, fs3, hp3, _⟩ := id (r1.same t2)
    refine ⟨_, rfl, _, rfl, o1, dx3, fs3, rfl, hp3, .inr ⟨n, rfl⟩, o1, .int n, a0, a1, n, 1, rfl, r1.same t2, .inl ⟨rfl, rfl⟩, ⟨n1, by decide⟩, ⟨s1, s2, s3, by decide +kernel⟩, fun x3 G3 e3 nx3 rx3 => ?_⟩
    have rx3 : RatAt K G3 x3 (lowT (a0 * n) a1) (lowB (a0 * n) a1) := by
      have z : RatAt K G3 x3 (lowT (a0 * n) (a1 * 1)) (lowB (a0 * n) (a1 * 1)) := rx3
      simp only [Int.mul_one] at z
      exact z
    have u3 := Same.trans t2 e3
    have ha3 := u3 _ _ ha
    refine ⟨_, rfl, ra, _, _, _, rfl, rfl, SqT.of ha3, rfl, _, rfl, _, _, rfl, rfl, mw s1 s3, _, rfl, ra, _, _, _, rfl, rfl, SqT.of ha3, rfl, _, _, rfl, n1, m900 s1 s3, s2', fun q3 J3 f3 nq3 hq'3 => ?_⟩
    refine ⟨_, _, _, _, rfl, rx3.same f3, hq'3, Nat.lt_of_le_of_lt (lowT_le n1) (m900 s1 s3), Nat.lt_of_le_of_lt (lowB_le n1) s2', fun L3 g3 => ⟨true, rfl, ?_⟩⟩
    have t3 := Same.trans u3 (Same.trans f3 g3)
    obtain ⟨dx4, fs4, hp4, _, _, _, hl4⟩ := id (r1.same t3)
    refine ⟨_, rfl, o1, dx4, fs4, rfl, hp4, hl4, _, rfl, o1, .int n, a0, a1, n, 1, rfl, r1.same t3, .inl ⟨rfl, rfl⟩, ⟨s1, s2, s3, o900⟩, fun G4 e4 => ?_⟩
    have u4 := Same.trans t3 e4
    have ha4 := u4 _ _ ha
    refine ⟨_, rfl, ra, _, _, _, rfl, rfl, SqT.of ha4, rfl, _, rfl, _, rfl, ra, _, _, _, rfl, rfl, SqT.of ha4, rfl, _, _, rfl, rfl, mw s3 s2, _, _, rfl, rfl, _, _, rfl, ?_, fun L4 g4 => ⟨true, rfl, ?_⟩⟩
    · rw [Int.mul_one]
      exact lk_bl _
    have t4 := Same.trans u4 g4
    obtain ⟨dx5, fs5, hp5, _⟩ := id (r1.same t4)
    refine ⟨_, rfl, _, rfl, o1, dx5, fs5, rfl, hp5, .inr (.inl ⟨n, rfl⟩), o1, _, a0, a1, rfl, r1.same t4, .inr ⟨.inl ⟨n, rfl⟩, _, rfl, ?_⟩⟩
    refine ⟨_, rfl, _, rfl, _, rfl, log2_1920 (Nat.lt_trans s3 (by decide +kernel)), o1, dx5, fs5, rfl, hp5, .inr (.inr ⟨_, rfl⟩), o1, _, a0, a1, rfl, r1.same t4, .inr ⟨.inr ⟨_, rfl⟩, _, rfl, ?_⟩⟩
    exact ⟨_, rfl, _, rfl, o1, ra, a0, a1, rfl, r1.same t4, t4 _ _ ha, Nat.lt_trans s1 (by decide +kernel), s2', fun L6 g6 => k L6 (Same.trans t4 g6)⟩
end
end Km

set_option Elab.async false
set_option linter.all false
set_option maxRecDepth 100000
set_option maxHeartbeats 4000000
namespace Km
open PySem PySem.Spec PyProof.Rows L2 Lx Dg TL Lo
theorem mulb {i j : Int} {a b : Nat} (h1 : i.natAbs < 2 ^ a) (h2 : j.natAbs < 2 ^ b) : (i * j).natAbs < 2 ^ (a + b) := by
  rw [Int.natAbs_mul, Nat.pow_add]
  exact Nat.mul_lt_mul'' h1 h2
theorem addb {i j : Int} {a : Nat} (h1 : i.natAbs < 2 ^ a) (h2 : j.natAbs < 2 ^ a) : (i + j).natAbs < 2 ^ (a + 1) ∧ (i - j).natAbs < 2 ^ (a + 1) := by
  rw [Nat.pow_succ]
  generalize (2 : Nat) ^ a = n at *
  omega
theorem upb {i : Int} {a b : Nat} (h : i.natAbs < 2 ^ a) (l : a ≤ b := by decide) : i.natAbs < 2 ^ b := Nat.lt_of_lt_of_le h (Nat.pow_le_pow_right (by decide) l)
theorem fdivb {u d : Int} {a : Nat} (h : u.natAbs < 2 ^ a) : (u.fdiv d).natAbs < 2 ^ (a + 1) := by
  have e := Int.natAbs_ediv_le_natAbs u d
  have p : 1 ≤ 2 ^ a := Nat.pow_pos (by decide)
  rw [Int.fdiv_eq_ediv, Nat.pow_succ]
  generalize (2 : Nat) ^ a = n at *
  split <;> omega
/-- one entry of the list made, at e: a ratio and its pair -/
def EntOk (K : PySem.W.Frag) (H : Hp) (e : Addr) : Prop := ∃ (o r : Addr) (t b : Int), H e = some (.tup [.ref o, .ref r]) ∧ RatAt K H o t b ∧ H r = some (.tup [.int t, .int b]) ∧ (0 < b ∧ Nat.gcd t.natAbs b.natAbs = 1) ∧ t.natAbs < 2 ^ 212 ∧ b.natAbs < 2 ^ 212
/-- all that is known stays, but for p and m -/
def SameX (p m : Addr) (H H' : Hp) : Prop := ∀ b u, b ≠ p → b ≠ m → H b = some u → H' b = some u
def IsL (H : Hp) (p : Addr) : Prop := ∃ l, H p = some (.lst l)
theorem BagAt.isL {H : Hp} {p : Addr} (b : BagAt H p) : IsL H p := by
  obtain ⟨q, cs, i, b, m, k, h1, _⟩ := b
  exact ⟨_, h1⟩
theorem IsL.ne {H : Hp} {p b : Addr} {u : HO} (h : IsL H p) (e : H b = some u) (n : ∀ l, u ≠ .lst l) : b ≠ p := fun z => by
  obtain ⟨l, h⟩ := h
  rw [z, h] at e
  exact n l (Option.some.inj e).symm
theorem EntOk.keep {K : PySem.W.Frag} {H H' : Hp} {p m e : Addr} (h : EntOk K H e) (hp : IsL H p) (hm : IsL H m) (s : SameX p m H H') : EntOk K H' e := by
  obtain ⟨o, r, t, b, h1, ⟨dx, fs, h2, f⟩, h3, h4⟩ := h
  exact ⟨o, r, t, b, s _ _ (hp.ne h1 fun _ z => nomatch z) (hm.ne h1 fun _ z => nomatch z) h1, ⟨dx, fs, s _ _ (hp.ne h2 fun _ z => nomatch z) (hm.ne h2 fun _ z => nomatch z) h2, f⟩, s _ _ (hp.ne h3 fun _ z => nomatch z) (hm.ne h3 fun _ z => nomatch z) h3, h4⟩
theorem sameX_of {p m : Addr} {H H' : Hp} (s : SameB p H H') : SameX p m H H' := fun b u h1 _ h => s.k b u h1 h
theorem sameX_trans {p m : Addr} {H H1 H2 : Hp} (a : SameX p m H H1) (b : SameX p m H1 H2) : SameX p m H H2 := fun x u h1 h2 h => b x u h1 h2 (a x u h1 h2 h)
theorem ratB {K : PySem.W.Frag} {p o : Addr} {t b : Int} {H H' : Hp} (r : RatAt K H o t b) (hp : IsL H p) (s : SameB p H H') : RatAt K H' o t b := by
  obtain ⟨dx, fs, h, f⟩ := r
  exact ⟨dx, fs, s _ _ (hp.ne h fun _ z => nomatch z) h, f⟩
theorem tupB {p o : Addr} {xs : List V} {H H' : Hp} (r : H o = some (.tup xs)) (hp : IsL H p) (s : SameB p H H') : H' o = some (.tup xs) := s _ _ (hp.ne r fun _ z => nomatch z) r
theorem same_b {p : Addr} {H H' : Hp} {b : Addr} {u : HO} (s : SameB p H H') (n : b ≠ p) (h : H b = some u) : H' b = some u := s _ _ n h
/-- the bag's cells are another list than m -/
def HdOk (H : Hp) (p m : Addr) : Prop := ∃ (q : Addr) (l : List V), H p = some (.lst (.ref q :: l)) ∧ q ≠ m
theorem ErrAt.same {H H' : Hp} {x : Addr} (h : ErrAt H x) (s : Same H H') : ErrAt H' x := by
  obtain ⟨l, h1, h2⟩ := h
  exact ⟨l, s _ _ h1, s _ _ h2⟩
/-- the names' values while the law runs: its script, bag and list -/
def LSt (a p m : Addr) (σ : L2.St) : Prop := ∃ (v3 v4 v5 v6 v7 v8 v9 v10 v11 v12 v13 v14 : Option V), σ = [some (.ref a), some (.ref p), some (.ref m), v3, v4, v5, v6, v7, v8, v9, v10, v11, v12, v13, v14]
section
variable {P : Program} {w : World} {K : PySem.W.Frag} {mg : Str → Option Value} {base : Heap}
def spLaw (K : PySem.W.Frag) : Sp := fun vs H Q _ => ∃ (a : Addr) (ns : List Int), vs = [.ref a] ∧ SqL K H a (ns.map V.int) ∧ ns.length ≤ 63 ∧ ∀ H', Q (.bl true) H'
theorem ok_law (hP : Pr P) (T : Txt K mg) : FnOk P w K mg base CX0 8 (He.ga K "law") (fdAt K D_law) ["script"] (spLaw K) := by
  refine okN T.d_law sc_law (fun vs H Q E h => ?_) (fun cdv A outer s H vs Q E hr h => ?_)
  · obtain ⟨_, _, rfl, _⟩ := h
    rfl
  · obtain ⟨a, ns, rfl, ha, hn, k⟩ := h
    refine ⟨_, (pss_cons (ps_set (i := 1) sc_law.nd rfl (Or.inl rfl) (pe_call (ok_law_bag T) (hr.mono (by first | decide | omega)) rfl T.m_law_bag T.k_law_bag (T.b_law_bag) .nil pass0 (pa_cons (pv 0) pa_nil)))
        (pss_cons (ps_set (i := 2) sc_law.nd rfl (Or.inl rfl) (pe_lst pa_nil))
        (pss_cut (ps_for PassesOwn.never rfl (pi_range1 rfl T.n_range (pa_cons pe_int pa_nil)) (pg_name (i := 3) sc_law.nd rfl (Or.inl rfl)) (pss_cons (ps_asg (pe_call (ok_law_pair T) (hr.mono (by first | decide | omega)) rfl T.m_law_pair T.k_law_pair (T.b_law_pair) .nil pass0 (pa_cons (pv 1) pa_nil)) (pg_tupk (n := 2) rfl (pgs_cons (pg_name (i := 9) sc_law.nd rfl (Or.inl rfl)) (pgs_cons (pg_name (i := 10) sc_law.nd rfl (Or.inl rfl)) pgs_nil))))
        (pss_cons (ps_set (i := 11) sc_law.nd rfl (Or.inl rfl) (pe_call (ok_law_lowest T) (hr.mono (by first | decide | omega)) rfl T.m_law_lowest T.k_law_lowest (T.b_law_lowest) .nil pass0 (pa_cons (pv 9) (pa_cons (pv 10) pa_nil))))
        (pss_cut (ps_set (i := 12) sc_law.nd rfl (Or.inl rfl) (pe_ifExp (pt_cmpR op_eqI (pe_call (ok_law_draw T) (hr.mono (by first | decide | omega)) rfl T.m_law_draw T.k_law_draw (T.b_law_draw) .nil pass0 (pa_cons (pv 1) (pa_cons pe_int pa_nil))) pe_int (nomark _)) (pe_makeN0 T.mk_Ratio (ok_Ratio__init T) (hr.mono (by first | decide | omega)) rfl T.m_Ratio T.b_iniK pass0 (pk_cons (pv 9) (pk_cons (pv 10) pk_nil))) (pe_make T.mk_Ratio (ok_Ratio__init T) (hr.mono (by decide)) rfl T.m_Ratio T.b_ini .nil pass0 (pa_cons (pv 9) (pa_cons (pv 10) pa_nil)))))
        (pss_cons (ps_if (PW.pt (pw_or (pt_not (pt_val (pe_call (ok_law_is_ratio T) (hr.mono (by first | decide | omega)) rfl T.m_law_is_ratio T.k_law_is_ratio (T.b_law_is_ratio) .nil pass0 (pa_cons (pv 12) (pa_cons (pv 11) pa_nil))))) (pw_or1 (pt_not (pt_val (pe_call (ok_law_is_ratio T) (hr.mono (by first | decide | omega)) rfl T.m_law_is_ratio T.k_law_is_ratio (T.b_law_is_ratio) .nil pass0 (pa_cons (pe_make T.mk_Ratio (ok_Ratio__init T) (hr.mono (by decide)) rfl T.m_Ratio T.b_ini1.choose_spec.2 T.b_ini1.choose_spec.1 pass0 (pa_cons (pv 9) pa_nil)) (pa_cons (pe_tup (pa_cons (pv 9) (pa_cons pe_int pa_nil))) pa_nil)))))))) (pss_one (ps_ret pe_bl)) pss_nil)
        (pss_cons (ps_expr (pe_bmk PySem.F.plainAttrs_list PySem.F.slot_list_append PySem.F.type_list_append mt_append (pv 2) (pa_cons (pe_tup (pa_cons (pv 12) (pa_cons (pv 11) pa_nil))) pa_nil)))
        (pss_cons (ps_set (i := 13) sc_law.nd rfl (Or.inl rfl) (pe_call (ok_law_of T) (hr.mono (by first | decide | omega)) rfl T.m_law_of T.k_law_of (T.b_law_of) .nil pass0 (pa_cons (pv 1) (pa_cons (pe_lst (pa_cons pe_int (pa_cons (pe_un un_neg pe_int) (pa_cons (pe_un un_neg pe_int) (pa_cons (pe_op op_pow pe_int pe_int) pa_nil))))) pa_nil))))
        (pss_cons (ps_if (PW.pt (pw_or (pt_not (pt_val (pe_call (ok_law_like T 3) (hr.mono (by first | decide | omega)) rfl T.m_law_like T.k_law_like (T.b_law_like) .nil pass0 (pa_cons (pe_cmpR (op_ownE T.o_eq (ok_Ratio__eq T) (hr.mono (by first | decide | omega)) T.b_Ratio__eq pass0) (pv 12) (pe_make T.mk_Ratio (ok_Ratio__init T) (hr.mono (by decide)) rfl T.m_Ratio T.b_ini .nil pass0 (pa_cons (pe_op op_mulW (pv 9) (pv 13)) (pa_cons (pe_op op_mulW (pv 10) (pv 13)) pa_nil))) (nomark _)) (pa_cons pe_bl pa_nil))))) (pw_or1 (pt_not (pt_val (pe_call (ok_law_like T 3) (hr.mono (by first | decide | omega)) rfl T.m_law_like T.k_law_like (T.b_law_like) .nil pass0 (pa_cons (pe_cmpR (op_ownE T.o_eq (ok_Ratio__eq T) (hr.mono (by first | decide | omega)) T.b_Ratio__eq pass0) (pv 12) (pe_make T.mk_Ratio (ok_Ratio__init T) (hr.mono (by decide)) rfl T.m_Ratio T.b_ini .nil pass0 (pa_cons (pe_op op_add (pe_ix ix_tupk (pv 11) pe_int (fun _ _ => rfl)) pe_int) (pa_cons (pe_ix ix_tupk (pv 11) pe_int (fun _ _ => rfl)) pa_nil))) (nomark _)) (pa_cons pe_bl pa_nil)))))))) (pss_one (ps_ret pe_bl)) pss_nil)
        (pss_cons (ps_if (pt_not (pt_val (pe_call (ok_law_numbers_right T) (hr.mono (by first | decide | omega)) rfl T.m_law_numbers_right T.k_law_numbers_right (T.b_law_numbers_right) .nil pass0 (pa_cons (pv 12) (pa_cons (pv 11) (pa_cons (pe_call (ok_law_of T) (hr.mono (by first | decide | omega)) rfl T.m_law_of T.k_law_of (T.b_law_of) .nil pass0 (pa_cons (pv 1) (pa_cons (pe_lst (pa_cons (pe_call (ok_law_number T) (hr.mono (by first | decide | omega)) rfl T.m_law_number T.k_law_number (T.b_law_number) .nil pass0 (pa_cons (pv 1) pa_nil)) (pa_cons pe_int (pa_cons (pe_ix ix_tupk (pv 11) pe_int (fun _ _ => rfl)) (pa_cons (pe_op op_fdivWN (pv 9) (pv 10)) (pa_cons (pe_op op_add pe_int (pe_op op_fdivWN (pv 9) (pv 10))) pa_nil)))))) pa_nil))) pa_nil)))))) (pss_one (ps_ret pe_bl)) pss_nil)
        (pss_one (ps_if (pt_not (pt_val (pe_call (ok_law_like T 3) (hr.mono (by first | decide | omega)) rfl T.m_law_like T.k_law_like (T.b_law_like) .nil pass0 (pa_cons (pe_call (ok_law_ask hP T) (hr.mono (by first | decide | omega)) rfl T.m_law_ask T.k_law_ask (T.b_law_ask) .nil pass0 (pa_cons (pe_call (ok_law_of T) (hr.mono (by first | decide | omega)) rfl T.m_law_of T.k_law_of (T.b_law_of) .nil pass0 (pa_cons (pv 1) (pa_cons (pe_lst (pa_cons (pv 9) (pa_cons pe_int (pa_cons pe_int pa_nil)))) pa_nil))) (pa_cons pe_int pa_nil))) (pa_cons (pe_call (ok_law_error T) (hr.mono (by first | decide | omega)) rfl T.m_law_error T.k_law_error (T.b_law_error) .nil pass0 (pa_cons pe_str (pa_cons pe_str pa_nil))) pa_nil))))) (pss_one (ps_ret pe_bl)) pss_nil)))))))))))
        (pss_cut (ps_for PassesOwn.never rfl (pi_listk (pe_slice sl_listk (pv 2) po_none (po_some pe_int))) (pg_tupk (n := 2) rfl (pgs_cons (pg_name (i := 4) sc_law.nd rfl (Or.inl rfl)) (pgs_cons (pg_name (i := 5) sc_law.nd rfl (Or.inl rfl)) pgs_nil))) (pss_cons (ps_asg (pe_call (ok_law_of T) (hr.mono (by first | decide | omega)) rfl T.m_law_of T.k_law_of (T.b_law_of) .nil pass0 (pa_cons (pv 1) (pa_cons (pv 2) pa_nil))) (pg_tupk (n := 2) rfl (pgs_cons (pg_name (i := 14) sc_law.nd rfl (Or.inl rfl)) (pgs_cons (pg_name (i := 8) sc_law.nd rfl (Or.inl rfl)) pgs_nil))))
        (pss_one (ps_if (pt_not (pt_val (pe_call (ok_law_pairs_right T) (hr.mono (by first | decide | omega)) rfl T.m_law_pairs_right T.k_law_pairs_right (T.b_law_pairs_right) .nil pass0 (pa_cons (pv 4) (pa_cons (pv 14) (pa_cons (pv 5) (pa_cons (pv 8) pa_nil))))))) (pss_one (ps_ret pe_bl)) pss_nil))))
        (pss_cons (ps_asg (pe_ix ix_listk (pv 2) pe_int (fun _ _ => rfl)) (pg_tupk (n := 2) rfl (pgs_cons (pg_name (i := 4) sc_law.nd rfl (Or.inl rfl)) (pgs_cons (pg_name (i := 5) sc_law.nd rfl (Or.inl rfl)) pgs_nil))))
        (pss_cons (ps_set (i := 6) sc_law.nd rfl (Or.inl rfl) (pe_call (ok_law_of T) (hr.mono (by first | decide | omega)) rfl T.m_law_of T.k_law_of (T.b_law_of) .nil pass0 (pa_cons (pv 1) (pa_cons (pe_lst (pa_cons pe_int (pa_cons (pe_un un_neg pe_int) (pa_cons pe_int pa_nil)))) pa_nil))))
        (pss_cons (ps_par (i := 7) (j := 8) rfl sc_law.nd rfl rfl (by decide) rfl rfl (pa_cons (pe_make T.mk_Ratio (ok_Ratio__init T) (hr.mono (by decide)) rfl T.m_Ratio T.b_ini .nil pass0 (pa_cons (pe_op op_add (pe_op op_mulW (pe_ix ix_tupk (pv 5) pe_int (fun _ _ => rfl)) pe_int) (pv 6)) (pa_cons (pe_op op_mulW (pe_ix ix_tupk (pv 5) pe_int (fun _ _ => rfl)) pe_int) pa_nil))) (pa_cons (pe_call (ok_law_lowest T) (hr.mono (by first | decide | omega)) rfl T.m_law_lowest T.k_law_lowest (T.b_law_lowest) .nil pass0 (pa_cons (pe_op op_add (pe_op op_mulW (pe_ix ix_tupk (pv 5) pe_int (fun _ _ => rfl)) pe_int) (pv 6)) (pa_cons (pe_op op_mulW (pe_ix ix_tupk (pv 5) pe_int (fun _ _ => rfl)) pe_int) pa_nil))) pa_nil)) (by rfl))
        (pss_one (ps_ret (pe_and (pe_call (ok_law_pairs_right T) (hr.mono (by first | decide | omega)) rfl T.m_law_pairs_right T.k_law_pairs_right (T.b_law_pairs_right) .nil pass0 (pa_cons (pv 4) (pa_cons (pv 7) (pa_cons (pv 5) (pa_cons (pv 8) pa_nil))))) (pe_one (pe_call (ok_law_is_ratio T) (hr.mono (by first | decide | omega)) rfl T.m_law_is_ratio T.k_law_is_ratio (T.b_law_is_ratio) .nil pass0 (pa_cons (pe_op (op_ownB T.o_add (ok_Ratio__add T) (hr.mono (by first | decide | omega)) T.b_Ratio__add pass0) (pe_op (op_ownB T.o_sub (ok_Ratio__sub T) (hr.mono (by first | decide | omega)) T.b_Ratio__sub pass0) (pv 7) (pv 4)) (pv 4)) (pa_cons (pv 8) pa_nil)))))))))))))), ?_⟩
    refine ⟨_, rfl, a, ns, rfl, ha, hn, fun p G0 e0 np b0 => ?_⟩
    refine ⟨Nat.zero_le _, fun m nm => ?_⟩
    have b1 := b0.same (same_mk (o := .lst []) (Same.refl G0) nm)
    have hm1 : upd G0 m (.lst []) m = some (.lst []) := upd_same
    have nmp : m ≠ p := b0.ne nm
    have hd1 : HdOk (upd G0 m (.lst [])) p m := by
      obtain ⟨q, cs, i1, i2, i3, i4, h1, h2, h3⟩ := b0
      exact ⟨q, _, (upd_ne (ne_of_none h1 nm)).trans h1, ne_of_none h2 nm⟩
    generalize upd G0 m (.lst []) = G1 at b1 hm1 hd1 ⊢
    refine ⟨fun σ' H' => LSt a p m σ' ∧ BagAt H' p ∧ HdOk H' p m ∧ ∃ ms, H' m = some (.lst ms) ∧ ms.length = 6 ∧ ∀ x ∈ ms, ∃ e, x = .ref e ∧ EntOk K H' e, ?_, ?_⟩
    · -- the laps
      refine ⟨6, rfl, by decide, by decide, ?_⟩
      refine for_range (n := 6) (fun i σ' H' => LSt a p m σ' ∧ BagAt H' p ∧ HdOk H' p m ∧ ∃ ms, H' m = some (.lst ms) ∧ ms.length = i ∧ ∀ x ∈ ms, ∃ e, x = .ref e ∧ EntOk K H' e) ⟨⟨none, none, none, none, none, none, none, none, none, none, none, none, rfl⟩, b1, hd1, [], hm1, rfl, fun x hx => nomatch hx⟩ ?_ (fun σ H' h => h)
      rintro i σ H1 hi ⟨⟨v3, v4, v5, v6, v7, v8, v9, v10, v11, v12, v13, v14, rfl⟩, b1, ⟨q0, l0, hq0, nq0⟩, ms, hm1, hl, hms⟩
      -- up, down = _law_pair(bag)
      refine ⟨_, rfl, p, rfl, b1, fun u d q G2 d0 zu zd s2 b2 nq hq => ⟨q, _, rfl, SqT.of hq, rfl, _, _, rfl, _, _, rfl, rfl, ?_⟩⟩
      refine ⟨_, rfl, _, rfl, u, d, rfl, d0, upb (b := 1900) zu, upb (b := 1900) zd, fun r G3 e3 nr hr' => ?_⟩
      have b3 := b2.same e3
      have s3 := sameB_trans s2 (sameB_of e3)
      have lw := low_is (t := u) d0
      have zT : (lowT u d).natAbs < 2 ^ 210 := Nat.lt_of_le_of_lt (lowT_le d0) zu
      have zB : (lowB u d).natAbs < 2 ^ 210 := Nat.lt_of_le_of_lt (lowB_le d0) zd
      -- told
      refine ⟨fun σ' H' => ∃ x, σ' = [some (.ref a), some (.ref p), some (.ref m), some (.int (0 + (i : Nat))), v4, v5, v6, v7, v8, some (.int u), some (.int d), some (.ref r), some (.ref x), v13, v14] ∧ SameB p H1 H' ∧ BagAt H' p ∧ RatAt K H' x (lowT u d) (lowB u d) ∧ H' r = some (.tup [.int (lowT u d), .int (lowB u d)]), ?_, ?_⟩
      · refine ⟨_, rfl, p, _, rfl, b3, by decide, by decide, fun c G4 c0 c1 s4 b4 => ⟨_, _, rfl, rfl, _, rfl, iteD (fun _ => ?_) (fun _ => ?_)⟩⟩
        · refine ⟨_, rfl, _, rfl, rfl, rfl, fun x dx nx nd nxd => ⟨x, dx, u, d, rfl, upd_same, d0, upb zu, upb zd, fun G5 k5 r5 => ⟨rfl, ?_⟩⟩⟩
          have e5 : Same G4 G5 := Same.made nx nd fun b o e ne => k5 b o ne e
          exact ⟨x, rfl, sameB_trans s3 (sameB_trans s4 (sameB_of e5)), b4.same e5, r5, e5 _ _ (tupB hr' b3.isL s4)⟩
        · refine ⟨_, rfl, _, rfl, fun x dx nx nd nxd => ⟨x, dx, u, d, rfl, upd_same, d0, upb zu, upb zd, fun G5 k5 r5 => ⟨rfl, ?_⟩⟩⟩
          have e5 : Same G4 G5 := Same.made nx nd fun b o e ne => k5 b o ne e
          exact ⟨x, rfl, sameB_trans s3 (sameB_trans s4 (sameB_of e5)), b4.same e5, r5, e5 _ _ (tupB hr' b3.isL s4)⟩
      rintro σ2 G5 ⟨x, rfl, s5, b5, r5, hr5⟩
      -- the two checks of told
      refine ⟨_, rfl, _, rfl, x, r, _, _, rfl, r5, hr5, upb zT, upb zB, fun G6 e6 => ⟨true, rfl, ?_⟩⟩
      have b6 := b5.same e6
      have s6 := sameB_trans s5 (sameB_of e6)
      refine ⟨_, rfl, fun y dy ny nd nyd => ⟨y, dy, u, 1, rfl, upd_same, by decide, upb zu, by decide +kernel, fun G7 k7 r7 => ⟨rfl, ?_⟩⟩⟩
      have e7 : Same G6 G7 := Same.made ny nd fun b o e ne => k7 b o ne e
      rw [(low_one u).1, (low_one u).2] at r7
      refine ⟨_, rfl, szl (n := 2) (by decide), fun q7 nq7 => ⟨y, q7, u, 1, rfl, r7.same (same_mk (Same.refl G7) nq7), upd_same, upb zu, by decide +kernel, fun G8 e8 => ⟨true, rfl, ?_⟩⟩⟩
      have e68 : Same G5 G8 := Same.trans e6 (Same.trans e7 (Same.trans (same_mk (Same.refl G7) nq7) e8))
      have b8 := b5.same e68
      have s8 := sameB_trans s5 (sameB_of e68)
      have r8 := r5.same e68
      have hr8 := e68 _ _ hr5
      have hm8 := s8 _ _ nmp hm1
      -- made.append
      refine ⟨_, rfl, .inl ⟨rfl, _, SqL.of hm8⟩, _, rfl, _, rfl, szl (n := 2) (by decide), fun e ne => ⟨m, _, _, rfl, rfl, (upd_ne (ne_of_none hm8 ne)).trans hm8, small1000 (by omega), ?_⟩⟩
      have nme : m ≠ e := ne_of_none hm8 ne
      have nep : e ≠ p := b8.ne ne
      generalize hG9 : upd (upd G8 e _) m _ = G9
      have x9 : SameX p m H1 G9 := fun b o h1 h2 h => by
        have z := s8 _ _ h1 h
        rw [← hG9, upd_ne h2, upd_ne (ne_of_none z ne)]
        exact z
      have hm9 : G9 m = some (.lst (ms ++ [.ref e])) := by rw [← hG9]; exact upd_same
      have k9 : ∀ b o, b ≠ m → G8 b = some o → G9 b = some o := fun b o h2 z => by
        rw [← hG9, upd_ne h2, upd_ne (ne_of_none z ne)]
        exact z
      have he9 : G9 e = some (.tup [.ref x, .ref r]) := by rw [← hG9, upd_ne (Ne.symm nme)]; exact upd_same
      have r9 : RatAt K G9 x (lowT u d) (lowB u d) := by
        obtain ⟨dx, fs, h, f⟩ := r8
        exact ⟨dx, fs, k9 _ _ (IsL.ne ⟨_, hm8⟩ h fun _ z => nomatch z) h, f⟩
      have hr9 : G9 r = some (.tup [.int (lowT u d), .int (lowB u d)]) := k9 _ _ (IsL.ne ⟨_, hm8⟩ hr8 fun _ z => nomatch z) hr8
      have b9 : BagAt G9 p := by
        obtain ⟨q, cs, i1, i2, i3, i4, h1, h2, h3⟩ := b8
        obtain ⟨l8, h8⟩ := s8.c _ _ hq0
        rw [h8] at h1
        cases h1
        exact ⟨q0, cs, i1, i2, i3, i4, k9 _ _ (Ne.symm nmp) h8, k9 _ _ nq0 h2, h3⟩
      obtain ⟨l9, hq9⟩ : ∃ l, G9 p = some (.lst (.ref q0 :: l)) := by
        obtain ⟨l8, h8⟩ := s8.c _ _ hq0
        exact ⟨l8, k9 _ _ (Ne.symm nmp) h8⟩
      clear hG9 k9
      -- times
      refine ⟨_, rfl, _, rfl, _, rfl, _, _, rfl, rfl, ⟨by decide, by decide, by decide⟩, szl (n := 4) (by decide), fun l nl => ⟨p, l, _, rfl, b9.same (same_mk (Same.refl G9) nl), upd_same, b9.ne nl, List.cons_ne_nil _ _, by decide, fun j tv Ga hx sa ba => ?_⟩⟩
      have sA : SameB p G9 Ga := sameB_trans (sameB_of (same_mk (Same.refl G9) nl)) sa
      obtain ⟨tm, rfl, t0, tz⟩ : ∃ tm : Int, tv = .int tm ∧ tm ≠ 0 ∧ tm.natAbs < 2 ^ 67 := by
        rcases j with _ | _ | _ | _ | j
        · cases hx; exact ⟨_, rfl, by decide, by decide⟩
        · cases hx; exact ⟨_, rfl, by decide, by decide⟩
        · cases hx; exact ⟨_, rfl, by decide, by decide⟩
        · cases hx; exact ⟨_, rfl, by decide, by decide⟩
        · cases hx
      have rA := ratB r9 b9.isL sA
      have hrA := tupB hr9 b9.isL sA
      -- told == Ratio(up * times, down * times)
      obtain ⟨ta, tb', hta, _⟩ := id rA
      refine ⟨_, rfl, _, rfl, _, rfl, _, _, rfl, rfl, wide_mul zu tz (by decide) (by decide) (by decide), _, rfl, _, rfl, _, _, rfl, rfl, wide_mul zd tz (by decide) (by decide) (by decide), fun y dy ny nd nyd => ⟨y, dy, _, _, rfl, upd_same, Int.mul_ne_zero d0 t0, upb (mulb zu tz), upb (mulb zd tz), fun Gb kb rb => ⟨rfl, ?_⟩⟩⟩
      have eB : Same Ga Gb := Same.made ny nd fun b o e ne => kb b o ne e
      rw [(low_mul (t := u) d0 t0).1, (low_mul (t := u) d0 t0).2] at rb
      have rB := rA.same eB
      obtain ⟨tc, td, htc, _⟩ := id rb
      refine ⟨x, _, _, rfl, eB _ _ hta, .inl ⟨y, tc, td, rfl, htc⟩, x, .ref y, _, _, rfl, rB, .inl ⟨y, _, _, rfl, rb, ?_⟩⟩
      rw [show decide (lowT u d = lowT u d ∧ lowB u d = lowB u d) = true by simp]
      refine ⟨_, _, rfl, lk_bl true, fun Gc eC => ⟨true, rfl, ?_⟩⟩
      have eC' : Same Ga Gc := Same.trans eB eC
      have hrC := eC' _ _ hrA
      have rC := rA.same eC'
      -- told == Ratio(due[0] + 1, due[1])
      refine ⟨_, rfl, _, rfl, r, _, _, _, rfl, rfl, SqT.of hrC, rfl, _, _, rfl, rfl, _, rfl, r, _, _, _, rfl, rfl, SqT.of hrC, rfl, fun z dz nz nd2 nzd => ⟨z, dz, _, _, rfl, upd_same, Int.ne_of_gt lw.pos, upb (addb zT (by decide +kernel : (1 : Int).natAbs < 2 ^ 210)).1, upb zB, fun Gd kd rd => ⟨rfl, ?_⟩⟩⟩
      have eD : Same Gc Gd := Same.made nz nd2 fun b o e ne => kd b o ne e
      have rD := rC.same eD
      obtain ⟨te, tf, hte, _⟩ := id rD
      obtain ⟨tg, th, htg, _⟩ := id rd
      refine ⟨x, _, _, rfl, hte, .inl ⟨z, tg, th, rfl, htg⟩, x, .ref z, _, _, rfl, rD, .inl ⟨z, _, _, rfl, rd, ?_⟩⟩
      rw [show decide (lowT u d = lowT (lowT u d + 1) (lowB u d) ∧ lowB u d = lowB (lowT u d + 1) (lowB u d)) = false from decide_eq_false fun h => low_next lw.pos ⟨h.1.symm, h.2.symm⟩]
      refine ⟨_, _, rfl, lk_bl false, fun Ge eE => ⟨true, rfl, ?_⟩⟩
      have eE' : Same Ga Ge := Same.trans eC' (Same.trans eD eE)
      have sE : SameB p G9 Ge := sameB_trans sA (sameB_of eE')
      have bE := ba.same eE'
      -- _law_numbers_right
      refine ⟨_, rfl, _, rfl, _, rfl, _, rfl, p, rfl, bE, fun nn Gf zn sf bf => ?_⟩
      have sF : SameB p G9 Gf := sameB_trans sE sf
      have hrF := tupB hr9 b9.isL sF
      have hw : CDivWN u d := wide_divN d0 zd (by decide) (by decide)
      refine ⟨_, rfl, r, _, _, _, rfl, rfl, SqT.of hrF, rfl, _, rfl, _, rfl, _, _, rfl, rfl, hw, _, rfl, _, rfl, _, _, rfl, rfl, hw, _, _, rfl, rfl, szl (n := 5) (by decide), fun l2 nl2 => ⟨p, l2, _, rfl, bf.same (same_mk (Same.refl Gf) nl2), upd_same, bf.ne nl2, List.cons_ne_nil _ _, show 5 < 1000000000 by decide, fun j2 nv Gg hx2 sg bg => ?_⟩⟩
      have sG : SameB p G9 Gg := sameB_trans sF (sameB_trans (sameB_of (same_mk (Same.refl Gf) nl2)) sg)
      obtain ⟨nb, rfl, znb⟩ : ∃ nb : Int, nv = .int nb ∧ nb.natAbs < 2 ^ 900 := by
        rcases j2 with _ | _ | _ | _ | _ | j2
        · cases hx2; exact ⟨_, rfl, upb zn⟩
        · cases hx2; exact ⟨_, rfl, by decide +kernel⟩
        · cases hx2; exact ⟨_, rfl, upb zT⟩
        · cases hx2; exact ⟨_, rfl, upb (fdivb zu)⟩
        · cases hx2; exact ⟨_, rfl, upb (addb (by decide +kernel : (1 : Int).natAbs < 2 ^ 211) (fdivb zu)).1⟩
        · cases hx2
      refine ⟨x, r, _, _, nb, rfl, ⟨ratB r9 b9.isL sG, tupB hr9 b9.isL sG⟩, Int.ne_of_gt lw.pos, ⟨upb zT, upb zB, znb⟩, fun Gh eH => ⟨true, rfl, ?_⟩⟩
      have sH : SameB p G9 Gh := sameB_trans sG (sameB_of eH)
      have bH := bg.same eH
      -- _law_ask
      refine ⟨_, rfl, _, rfl, szl (n := 3) (by decide), fun l3 nl3 => ⟨p, l3, _, rfl, bH.same (same_mk (Same.refl Gh) nl3), upd_same, bH.ne nl3, List.cons_ne_nil _ _, show 3 < 1000000000 by decide, fun j3 av Gi hx3 si bi => ?_⟩⟩
      have sI : SameB p G9 Gi := sameB_trans sH (sameB_trans (sameB_of (same_mk (Same.refl Gh) nl3)) si)
      obtain ⟨av, rfl⟩ : ∃ i : Int, av = .int i := by
        rcases j3 with _ | _ | _ | j3
        · cases hx3; exact ⟨_, rfl⟩
        · cases hx3; exact ⟨_, rfl⟩
        · cases hx3; exact ⟨_, rfl⟩
        · cases hx3
      refine ⟨av, rfl, fun xa Gj eJ ja => ?_⟩
      refine ⟨rfl, fun xb Gk eK kb2 => ?_⟩
      refine ⟨_, _, rfl, lk_err (ja.same eK) kb2, fun Gl eL => ⟨true, rfl, ?_⟩⟩
      have eIL : Same Gi Gl := Same.trans eJ (Same.trans eK eL)
      have sL : SameB p G9 Gl := sameB_trans sI (sameB_of eIL)
      have bL := bi.same eIL
      obtain ⟨lL, hqL⟩ := sL.c _ _ hq9
      have hmL := sL.k _ _ nmp hm9
      have xL : SameX p m H1 Gl := sameX_trans x9 (sameX_of sL)
      refine ⟨⟨_, _, _, _, _, _, _, _, _, _, _, _, rfl⟩, bL, ⟨q0, lL, hqL, nq0⟩, _, hmL, by rw [List.length_append, hl]; rfl, fun y hy => ?_⟩
      rcases List.mem_append.mp hy with h | h
      · obtain ⟨e', rfl, ok⟩ := hms y h
        exact ⟨e', rfl, ok.keep b1.isL ⟨_, hm1⟩ xL⟩
      · rw [List.mem_singleton.mp h]
        exact ⟨e, rfl, x, r, _, _, tupB he9 b9.isL sL, ratB r9 b9.isL sL, tupB hr9 b9.isL sL, ⟨lw.pos, lw.cop⟩, upb zT, upb zB⟩
    · rintro σ1 H1 ⟨⟨v3, v4, v5, v6, v7, v8, v9, v10, v11, v12, v13, v14, rfl⟩, b1, ⟨q0, l0, hq0, nq0⟩, ms, hm1, hl, hms⟩
      refine ⟨fun σ' H' => LSt a p m σ' ∧ BagAt H' p ∧ H' m = some (.lst ms) ∧ ∀ x ∈ ms, ∃ e, x = .ref e ∧ EntOk K H' e, ?_, ?_⟩
      · -- made[:5]
        refine ⟨_, rfl, _, rfl, m, _, rfl, SqL.of hm1, fun c nc => ⟨c, rfl, ⟨_, SqL.of upd_same⟩, ?_⟩⟩
        have nmc : m ≠ c := ne_of_none hm1 nc
        have ncp : c ≠ p := b1.ne nc
        have e2 := same_mk (o := .lst (cutV ms none (some 5))) (Same.refl H1) nc
        have hc2 : upd H1 c (.lst (cutV ms none (some 5))) c = _ := upd_same
        have b2 := b1.same e2
        have hm2 := e2 _ _ hm1
        have hms2 : ∀ x ∈ ms, ∃ e, x = .ref e ∧ EntOk K (upd H1 c (.lst (cutV ms none (some 5)))) e := fun x hx => by
          obtain ⟨e, he, ok⟩ := hms x hx
          exact ⟨e, he, ok.keep b1.isL ⟨_, hm1⟩ (sameX_of (sameB_of e2))⟩
        generalize upd H1 c (.lst (cutV ms none (some 5))) = G2 at e2 hc2 b2 hm2 hms2 ⊢
        refine for_list (xs := cutV ms none (some 5)) (fun i σ' H' => LSt a p m σ' ∧ BagAt H' p ∧ H' m = some (.lst ms) ∧ H' c = some (.lst (cutV ms none (some 5))) ∧ ∀ x ∈ ms, ∃ e, x = .ref e ∧ EntOk K H' e) ⟨⟨_, _, _, _, _, _, _, _, _, _, _, _, rfl⟩, b2, hm2, hc2, hms2⟩ (fun i σ H' _ z => SqL.of z.2.2.2.1) ?_ (fun σ H' z => ⟨z.1, z.2.1, z.2.2.1, z.2.2.2.2⟩)
        rintro i x σ H3 hx ⟨⟨v3, v4, v5, v6, v7, v8, v9, v10, v11, v12, v13, v14, rfl⟩, b3, hm3, hc3, hms3⟩
        have hxm : x ∈ ms := by
          have z := List.mem_of_getElem? hx
          unfold cutV at z
          exact List.mem_of_mem_drop (List.mem_of_mem_take z)
        obtain ⟨e, rfl, o, r, t, b, he, ro, hr', ⟨bp, bc⟩, zt, zb⟩ := hms3 x hxm
        refine ⟨e, _, rfl, SqT.of he, rfl, _, _, rfl, _, _, rfl, rfl, ?_⟩
        refine ⟨_, rfl, _, rfl, p, m, ms, rfl, b3, hm3, nmp, (fun z => by rw [z] at hl; cases hl), by omega, fun j y G4 hy s4 b4 => ?_⟩
        obtain ⟨e', rfl, ok'⟩ := hms3 y (List.mem_of_getElem? hy)
        have ok4 := ok'.keep b3.isL ⟨_, hm3⟩ (sameX_of s4)
        obtain ⟨o2, r2, t2, b2', he2, ro2, hr2, ⟨bp2, bc2⟩, zt2, zb2⟩ := ok4
        refine ⟨e', _, rfl, SqT.of he2, rfl, _, _, rfl, _, _, rfl, rfl, ?_⟩
        refine ⟨_, rfl, _, rfl, _, rfl, _, rfl, o, o2, r, r2, t, b, t2, b2', rfl, ⟨ratB ro b3.isL s4, ro2, tupB hr' b3.isL s4, hr2⟩, ⟨Int.ne_of_gt bp, Int.ne_of_gt bp2⟩, ⟨upb zt, upb zb, upb zt2, upb zb2⟩, fun G5 e5 => ⟨true, rfl, ?_⟩⟩
        have s5 := sameB_trans s4 (sameB_of e5)
        refine ⟨⟨_, _, _, _, _, _, _, _, _, _, _, _, rfl⟩, b4.same e5, s5.k _ _ nmp hm3, s5.k _ _ ncp hc3, fun x hx => ?_⟩
        obtain ⟨e', he', ok'⟩ := hms3 x hx
        exact ⟨e', he', ok'.keep b3.isL ⟨_, hm3⟩ (sameX_of s5)⟩
      · rintro σ2 H2 ⟨⟨v3, v4, v5, v6, v7, v8, v9, v10, v11, v12, v13, v14, rfl⟩, b2, hm2, hms2⟩
        obtain ⟨y, ys, rfl⟩ : ∃ y ys, ms = y :: ys := by
          cases ms with
          | nil => cases hl
          | cons y ys => exact ⟨y, ys, rfl⟩
        obtain ⟨e, rfl, o, r, t, b, he, ro, hr', ⟨bp, bc⟩, zt, zb⟩ := hms2 y (List.mem_cons_self ..)
        -- one, a = made[0]
        refine ⟨_, rfl, m, _, _, _, rfl, rfl, SqL.of hm2, atI_nat (j := 0) rfl, e, _, rfl, SqT.of he, rfl, _, _, rfl, _, _, rfl, rfl, ?_⟩
        -- shift
        refine ⟨_, rfl, _, rfl, szl (n := 3) (by decide), fun l nl => ⟨p, l, _, rfl, b2.same (same_mk (Same.refl H2) nl), upd_same, b2.ne nl, List.cons_ne_nil _ _, by decide, fun j sv G3 hx s3 b3 => ?_⟩⟩
        have sA : SameB p H2 G3 := sameB_trans (sameB_of (same_mk (Same.refl H2) nl)) s3
        obtain ⟨sh, rfl, zs⟩ : ∃ sh : Int, sv = .int sh ∧ sh.natAbs < 2 ^ 213 := by
          rcases j with _ | _ | _ | j
          · cases hx; exact ⟨_, rfl, by decide⟩
          · cases hx; exact ⟨_, rfl, by decide⟩
          · cases hx; exact ⟨_, rfl, by decide⟩
          · cases hx
        have r3 := ratB ro b2.isL sA
        have hr3 := tupB hr' b2.isL sA
        have z2 : (2 : Int).natAbs < 2 ^ 1 ∨ True := .inr trivial
        have zt2 : (t * 2).natAbs < 2 ^ 213 := by have := zt; omega
        have zb2 : (b * 2).natAbs < 2 ^ 213 := by have := zb; omega
        have zn := (addb zt2 zs).1
        have nb : b * 2 ≠ 0 := by omega
        have w2 : ∀ {i : Int}, i.natAbs < 2 ^ 212 → CMulW i 2 := fun h => wide_mul h (b := 64) (by decide) (by decide) (by decide) (by decide)
        -- near, b
        refine ⟨_, rfl, r, _, _, _, rfl, rfl, SqT.of hr3, rfl, _, _, rfl, rfl, w2 zt, _, rfl, _, _, rfl, rfl, _, rfl, r, _, _, _, rfl, rfl, SqT.of hr3, rfl, _, _, rfl, rfl, w2 zb, fun x dx nx nd nxd => ⟨x, dx, _, _, rfl, upd_same, nb, upb zn, upb zb2, fun G4 k4 r4 => ⟨rfl, ?_⟩⟩⟩
        have e4 : Same G3 G4 := Same.made nx nd fun b o e ne => k4 b o ne e
        have hr4 := e4 _ _ hr3
        refine ⟨_, rfl, r, _, _, _, rfl, rfl, SqT.of hr4, rfl, _, _, rfl, rfl, w2 zt, _, rfl, _, _, rfl, rfl, _, rfl, r, _, _, _, rfl, rfl, SqT.of hr4, rfl, _, _, rfl, rfl, w2 zb, _, _, rfl, nb, upb zn, upb zb2, fun q G5 e5 nq hq => ⟨_, _, rfl, ?_⟩⟩
        have lw := low_is (t := t * 2 + sh) nb
        have zN : (lowT (t * 2 + sh) (b * 2)).natAbs < 2 ^ 214 := Nat.lt_of_le_of_lt (lowT_le nb) zn
        have zM : (lowB (t * 2 + sh) (b * 2)).natAbs < 2 ^ 214 := upb (Nat.lt_of_le_of_lt (lowB_le nb) zb2)
        have back := low_back (a0 := t) bp lw.pos lw.cop
        have rn := r4.same e5
        generalize lowT (t * 2 + sh) (b * 2) = N at *
        generalize lowB (t * 2 + sh) (b * 2) = M at *
        have e35 := Same.trans e4 e5
        have ro5 := r3.same e35
        have hr5 := e35 _ _ hr3
        refine ⟨_, rfl, _, rfl, _, rfl, _, rfl, o, x, r, q, t, b, N, M, rfl, ⟨ro5, rn, hr5, hq⟩, ⟨Int.ne_of_gt bp, Int.ne_of_gt lw.pos⟩, ⟨upb zt, upb zb, upb zN, upb zM⟩, fun G6 e6 => ⟨true, rfl, ?_⟩⟩
        have rn6 := rn.same e6
        have ro6 := ro5.same e6
        obtain ⟨ta, tb', hta, _⟩ := id rn6
        obtain ⟨tc, td, htc, _⟩ := id ro6
        refine ⟨_, rfl, _, rfl, x, _, _, rfl, hta, .inl ⟨o, _, _, rfl, htc⟩, x, .ref o, N, M, t, b, rfl, rn6, .inr ⟨o, rfl, ro6⟩, ⟨Int.ne_of_gt lw.pos, Int.ne_of_gt bp⟩, ⟨upb zN, upb zM, upb zt, upb zb⟩, fun y G7 e7 ny r7 => ?_⟩
        have nMb : M * b ≠ 0 := Int.mul_ne_zero (Int.ne_of_gt lw.pos) (Int.ne_of_gt bp)
        have l7 := low_is (t := N * b - t * M) nMb
        have zD : (lowT (N * b - t * M) (M * b)).natAbs < 2 ^ 900 := Nat.lt_of_le_of_lt (lowT_le nMb) (upb (addb (a := 428) (upb (mulb zN zb)) (upb (mulb zt zM))).2)
        have zE : (lowB (N * b - t * M) (M * b)).natAbs < 2 ^ 900 := Nat.lt_of_le_of_lt (lowB_le nMb) (upb (mulb zM zb))
        have r7 : RatAt K G7 y (lowT (N * b - t * M) (M * b)) (lowB (N * b - t * M) (M * b)) := r7
        have ro7 := ro6.same e7
        obtain ⟨te, tf, hte, _⟩ := id r7
        obtain ⟨tg, th, htg, _⟩ := id ro7
        refine ⟨_, rfl, y, _, _, rfl, hte, .inl ⟨o, _, _, rfl, htg⟩, y, .ref o, _, _, t, b, rfl, r7, .inr ⟨o, rfl, ro7⟩, ⟨Int.ne_of_gt l7.pos, Int.ne_of_gt bp⟩, ⟨zD, zE, upb zt, upb zb⟩, fun z G8 e8 nz r8 => ?_⟩
        have r8 : RatAt K G8 z N M := by
          have v : RatAt K G8 z (lowT (lowT (N * b - t * M) (M * b) * b + t * lowB (N * b - t * M) (M * b)) (lowB (N * b - t * M) (M * b) * b)) (lowB (lowT (N * b - t * M) (M * b) * b + t * lowB (N * b - t * M) (M * b)) (lowB (N * b - t * M) (M * b) * b)) := r8
          rw [back.1, back.2] at v
          exact v
        have hq8 := e8 _ _ (e7 _ _ (e6 _ _ hq))
        exact ⟨_, rfl, z, q, N, M, rfl, r8, hq8, upb zN, upb zM, fun G9 _ => k G9⟩

end
end Km

set_option Elab.async false
set_option linter.all false
set_option maxRecDepth 100000
set_option maxHeartbeats 0
namespace Km
open PySem PySem.Spec PyProof.Rows L2 Lx
theorem run (w : World) : HandSHeadRun.RunEqI R (PySem.W.view R.prog [0, 40]) hk ob 6000 names w := by
  unfold HandSHeadRun.RunEqI
  kernel_rfl
end Km

set_option Elab.async false
set_option linter.all false
set_option maxRecDepth 100000
set_option maxHeartbeats 0
namespace Km
open PySem PySem.Spec PyProof.Rows L2 Lx
theorem facts {P : Program} {w : World} {K : PySem.W.Frag} {h : Heap} {mg : Str → Option Value} {f : Addr} (hP : Pr P) (X : K.In h) (G : h.Ns mainGlobals mg) (hfa : mg ("law" : Str) = some (.ref f)) (c : He.SaysD fa fn K) (e : ex K = true) (q : ∀ d ∈ [Q_OutOf], fnN K d.at_ = d.val) :
    ∃ fd : FuncData, (∀ (s : Shared) (v : Value), BindsTo s fd ⟨[v], []⟩ [("script", v)]) ∧ ∀ base : Heap, K.In base → base.Ns mainGlobals mg → FnOk P w K mg base CX0 8 f fd ["script"] (spLaw K) := by
  have T : Txt K mg := ⟨⟨h, X, G⟩, c, e, q _ (List.mem_singleton.mpr rfl)⟩
  have e2 := hfa.symm.trans T.m_law
  cases e2
  have b := FunD.bindsA (ps := ["script"]) T.d_law fun _ _ _ _ _ _ us hl => match us, hl with | [_], _ => rfl
  exact ⟨_, fun s v => b s [v] rfl, fun base _ _ => ok_law hP T⟩
end Km
open PySem PySem.W PySem.Calls PyProof.Rows
theorem PySem.Challenge.cw_buriedsure_k76_ratios_beside_pairs_holds : PySem.Challenge.rw_buriedsure_k76_ratios_beside_pairs.Holds := by
  w_on; o_law
  refine HandSHeadRun.head_imp (r := OpenLaw.row PySem.Challenge.rw_buriedsure_k76_ratios_beside_pairs) (q := view (OpenLaw.row PySem.Challenge.rw_buriedsure_k76_ratios_beside_pairs).prog [0, 40]) (H := Km.hk) (ob := Km.ob) (M := 6000) (loose := Km.names) (d := HandSHeadRun.topDef (OpenLaw.row PySem.Challenge.rw_buriedsure_k76_ratios_beside_pairs).prog 40) (kwd := []) Km.ob_eq
    Km.run (by kernel_rfl) (by kernel_rfl) (by kernel_rfl) (by rfl) (by first | assumption | decide +kernel) (by decide +kernel) ⟨rfl, rfl, rfl, rfl, rfl, by decide +kernel⟩ ?hw ?hc
  case hw => w_witness2
  case hc =>
    refine L2.walk_ofE (l := PySem.Challenge.rw_buriedsure_k76_ratios_beside_pairs) (n := 63) (k := 8) (x := "script") (CX := L2.CX0) rfl (by decide) (by kernel_rfl) ⟨rfl, by decide, by decide⟩ ?F (fun _ _ _ _ z => z)
    intro w mg fa h Y G hmg0
    obtain ⟨K, KX, c, e, q⟩ := Y
    have hmg : mg ("law" : PySem.Str) = some (.ref fa) := by
      have e : (HandSHeadRun.topDef (OpenLaw.row PySem.Challenge.rw_buriedsure_k76_ratios_beside_pairs).prog 40).name = ("law" : PySem.Str) := by kernel_rfl
      rw [← e]
      exact hmg0
    obtain ⟨fd, hb, hF⟩ := Km.facts (P := (PySem.Challenge.rw_buriedsure_k76_ratios_beside_pairs).prog) (w := w) ⟨rfl, by decide +kernel⟩ KX G hmg c e q
    exact ⟨K, fd, Km.spLaw K, KX, hb, fun H a ns hl _ hS => ⟨a, ns, rfl, hS, hl, fun _ => rfl⟩, hF⟩
