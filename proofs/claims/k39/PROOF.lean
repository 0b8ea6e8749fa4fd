import PyProof.Rows.All
import Wide.All
import OpenK.AllK
import Wide.FinOn
import KE.KStateDown
import HandS.ForMost
import HandS.Wide
import HandS.IsInst
import HandS.Style
import HandS.Conv
import HandS.Walk
import HandS.Zip
import HandS.Defaults
import HandS.More
import HandS.WordsExc
import HandS.EndBits
import HandS.Head0
import HandS.Head1
import HandS.Head2
import HandS.HeadEnd
import HandS.HeadHook1
import HandS.HeadHook2
import HandS.HeadHook3
import HandS.HeadHook4
import HandS.Strs
import HandS.SetFor
import HandS.SetBool
import HandS.SortInts
import HandS.Nested
import HandS.DictComp
import HandS.CallLocal
import HandS.Defaults
import HandS.Replace
import KE.KUnpackStar
import HandS.SetKeys
import HandS.HeadWalk
import HandS.SetKeys
import PySem.Challenge.RW_rowlift_k39_whole_rows_put_ahead
set_option Elab.async false
set_option linter.all false
set_option maxRecDepth 100000
set_option maxHeartbeats 4000000
namespace Rl
open PySem PySem.Spec PyProof.Rows L2

/-! ## rules that take one of several -/
section
variable {X : Cx}
theorem pe_or {e : Expr} {t t' : TE} (h : PE X e t) (h' : PE X e t') : PE X e (fun σ H Q => t σ H Q ∨ t' σ H Q) :=
  ⟨fun pins s σ H Q I q => q.elim (h.run pins s σ H Q I) (h'.run pins s σ H Q I)⟩
theorem pi_or {tg e : Expr} {w w' : TI} (h : PI X tg e w) (h' : PI X tg e w') : PI X tg e (fun σ H R => w σ H R ∨ w' σ H R) :=
  ⟨fun pins s σ H R I q => q.elim (h.run pins s σ H R I) (h'.run pins s σ H R I)⟩

def rAddS : R2 := fun x y H Q => ∃ i j, x = .str i ∧ y = .str j ∧ i.length + j.length ≤ sizeLine ∧ Q (.str (i ++ j)) H
def rAddA (K : PySem.W.Frag) : R2 := fun x y H Q => rI0 (fun i j => .int (i + j)) x y H Q ∨ rAddS x y H Q ∨ rCat x y H Q ∨ rCatT K x y H Q
theorem op_addA : OpR X (binaryOp .Add) (rAddA X.K) := op_add.or (op_add_str.or (op_cat.or op_catT))
def rSubA : R2 := rI0 fun i j => .int (i - j)
theorem op_subA : OpR X (binaryOp .Sub) rSubA := op_sub
def CMulA (i j : Int) : Prop := CMul i j ∨ CMulW i j
def rMulI : R2 := rI CMulA fun i j => .int (i * j)
theorem op_mulI : OpR X (binaryOp .Mult) rMulI := opI fun _ _ _ _ _ _ _ hc q => mul_int q (hc.elim CMul.ok CMulW.ok)
def rMulA : R2 := fun x y H Q => rMulI x y H Q ∨ rRep x y H Q
theorem op_mulA : OpR X (binaryOp .Mult) rMulA := op_mulI.or op_rep
def rModA : R2 := rI (fun _ j => 0 < j) fun i j => .int (i % j)
theorem op_modA : OpR X (binaryOp .Mod) rModA := op_mod
def rDivA : R2 := rI CDivW fun i j => .int (i / j)
theorem op_divA : OpR X (binaryOp .FloorDiv) rDivA := op_fdivW
def rPowA : R2 := rI CPow fun i j => .int (i ^ j.toNat)
theorem op_powA : OpR X (binaryOp .Pow) rPowA := op_pow
def rShlA : R2 := rI CPow fun i j => .int (i * 2 ^ j.toNat)
theorem op_shlA : OpR X (binaryOp .LShift) rShlA := op_shl
def rShrA : R2 := rI (fun _ j => 0 ≤ j) fun i j => .int (i / 2 ^ j.toNat)
theorem op_shrA : OpR X (binaryOp .RShift) rShrA := op_shr
def rAndA : R2 := rI0 fun i j => .int (Builtin.bitAnd i j)
theorem op_andA : OpR X (binaryOp .BitAnd) rAndA := op_and
def rOrA : R2 := rI0 fun i j => .int (Builtin.bitOr i j)
theorem op_orA : OpR X (binaryOp .BitOr) rOrA := op_or
def rXorA : R2 := rI0 fun i j => .int (Builtin.bitXor i j)
theorem op_xorA : OpR X (binaryOp .BitXor) rXorA := op_xor
def rLtA : R2 := rI0 fun i j => .bl (decide (i < j))
theorem op_ltA : OpR X (compareOp .Lt) rLtA := op_lt
def rLeA : R2 := rI0 fun i j => .bl (decide (i ≤ j))
theorem op_leA : OpR X (compareOp .LtE) rLeA := op_le
def rGtA : R2 := rI0 fun i j => .bl (decide (j < i))
theorem op_gtA : OpR X (compareOp .Gt) rGtA := op_gt
def rGeA : R2 := rI0 fun i j => .bl (decide (j ≤ i))
theorem op_geA : OpR X (compareOp .GtE) rGeA := op_ge
def rEqA (K : PySem.W.Frag) : R2 := fun x y H Q => rEq x y H Q ∨ rEqD K x y H Q
theorem op_eqA (hu : X.A.units + 64 < cLine) : OpR X (compareOp .Eq) (rEqA X.K) := op_eq.or (op_eqD hu)
def rNeA (K : PySem.W.Frag) : R2 := fun x y H Q => rNe x y H Q ∨ rNeD K x y H Q
theorem op_neA (hu : X.A.units + 64 < cLine) : OpR X (compareOp .NotEq) (rNeA X.K) := op_ne.or (op_neD hu)
def rIsN : R2 := fun u v H Q => v = .non ∧ Q (.bl (decide (u = .non))) H
theorem op_isN1 : OpR X (compareOp .Is) rIsN := op_isN
def rNotN : R2 := fun u v H Q => v = .non ∧ Q (.bl (!decide (u = .non))) H
theorem op_notN1 : OpR X (compareOp .IsNot) rNotN := op_notN
/-- one sign (or a text) in a text -/
def rInSA : R2 := fun x y H Q => ∃ i j, x = .str i ∧ y = .str j ∧ Q (.bl (!(Builtin.Str.occurrences j i 0 j.length 1).isEmpty)) H
theorem op_inSA : OpR X (compareOp .In) rInSA := op_in_str
def rNiSA : R2 := fun x y H Q => ∃ i j, x = .str i ∧ y = .str j ∧ Q (.bl (!(!(Builtin.Str.occurrences j i 0 j.length 1).isEmpty))) H
theorem op_niSA : OpR X (compareOp .NotIn) rNiSA := op_notIn_str
/-- slices of lists, texts, tuples -/
def rSlA (K : PySem.W.Frag) : V → Option Int → Option Int → Hp → VK → Prop := fun x lo hi H Q => rSlL K x lo hi H Q ∨ rSlT K x lo hi H Q
theorem sl_A : SlR X (rSlA X.K) := sl_list.or sl_tup
/-- calls of built-ins -/
def rLenA (K : PySem.W.Frag) : List V → Hp → VK → Prop := fun xs H Q => ∃ x n, xs = [x] ∧ LenV K x H n ∧ Q (.int n) H
theorem call_lenA : CallR X (.builtin "len") (rLenA X.K) := call_len
def rInt1 : List V → Hp → VK → Prop := fun xs H Q => (∃ i, xs = [.int i] ∧ Q (.int i) H) ∨ ∃ k, xs = [.bl k] ∧ Q (.int (if k then 1 else 0)) H
theorem call_intA : CallR X (.type "int") rInt1 := call_int1
def rAbs : List V → Hp → VK → Prop := fun xs H Q => ∃ i, xs = [.int i] ∧ Q (.int (if i < 0 then -i else i)) H
theorem call_absA : CallR X (.builtin "abs") rAbs := call_abs
def rMin2 : List V → Hp → VK → Prop := fun xs H Q => ∃ i j, xs = [.int i, .int j] ∧ Q (.int (if j < i then j else i)) H
theorem call_min2A (hc : X.calm = true) : CallR X (.builtin "min") rMin2 := call_min2 hc
def rMax2 : List V → Hp → VK → Prop := fun vs H Q => ∃ m n, vs = [.int m, .int n] ∧ Q (.int (if n > m then n else m)) H
theorem call_max2A (hc : X.calm = true) : CallR X (.builtin "max") rMax2 := call_max2 hc
def rListA (K : PySem.W.Frag) : List V → Hp → VK → Prop := fun xs H Q => ∃ p ys, xs = [.ref p] ∧ (SqL K H p ys ∨ SqT K H p ys) ∧ ∀ l, H l = none → Q (.ref l) (upd H l (.lst ys))
theorem call_listA : CallR X (.type "list") (rListA X.K) := call_list_of
def rTupA (K : PySem.W.Frag) : List V → Hp → VK → Prop := fun xs H Q => ∃ p ys, xs = [.ref p] ∧ ((SqL K H p ys ∧ ∀ l, H l = none → Q (.ref l) (upd H l (.tup ys))) ∨ (SqT K H p ys ∧ Q (.ref p) H))
theorem call_tupA : CallR X (.type "tuple") (rTupA X.K) := call_tuple_of
/-- a for over a list or a tuple -/
def iSeq (K : PySem.W.Frag) (tl : TE) : TI := fun σ H R => tl σ H fun x H1 => (∃ a, x = .ref a ∧ (∃ xs, SqL K H1 a xs) ∧ R (Itl K a) H1) ∨ (∃ a, x = .ref a ∧ (∃ xs, SqT K H1 a xs) ∧ R (Itt K a) H1)
theorem pi_seq {tg l : Expr} {tl : TE} (hl : PE X l tl) : PI X tg l (iSeq X.K tl) := by
  refine ⟨fun pins s σ H R I go => thn (hl.run pins s σ H _ I go) fun v t ⟨x, Ht, It, rv, ways⟩ => ?_⟩
  -- the new iterator stands apart
  have apart : ∀ b ∈ [t.heap.objs.size], FpOk X pins Ht b := fun b hb => by
    rw [List.mem_singleton.mp hb]
    exact It.fpOk (Nat.le_refl _) (It.hok.fresh (Nat.le_refl _))
  rcases ways with ⟨a, rfl, ⟨xs, seq⟩, go2⟩ | ⟨a, rfl, ⟨xs, seq⟩, go2⟩
  · cases rv
    obtain ⟨items, _, isL, _⟩ := It.list seq
    exact wpAny_pyIter_list isL.isList ⟨_, _, _, _, Ht, rfl, It.kept (t' := t.toks) fun _ _ e => Heap.get?_push_of_some _ e, turn_list a _, ⟨_, Heap.get?_push_size _ rfl, rfl, rfl⟩, apart, go2⟩
  · cases rv
    obtain ⟨items, _, isT, _⟩ := It.tuple seq
    exact wpAny_pyIter_tuple (show t.heap.IsTuple a items.toArray from isT) ⟨_, _, _, _, Ht, rfl, It.kept (t' := t.toks) fun _ _ e => Heap.get?_push_of_some _ e, turn_tuple a _, ⟨_, Heap.get?_push_size _ rfl, rfl, rfl⟩, apart, go2⟩
/-- a module's constant -/
theorem pe_gcn {x : Str} {v : V} {f : Tok → Value} {pos : Pos} (hg : Gl X x) (h : ∃ t, X.mg x = some (f t)) (r : ∀ t, RelV v (f t) := by intro t; exact ⟨t, rfl⟩) (hd : (x == ("__debug__" : Str)) = false := by decide) : PE X (.Name x pos) (tC v) := by
  obtain ⟨t, hm⟩ := h
  exact pe_glob hg hm (r t) hd
def tTru (K : PySem.W.Frag) (te : TE) : TT := fun σ H Q => te σ H fun v H' => ∃ b, TruV K v H' b ∧ Q b H'
end

/-! ## dicts of the written part, keys ints or texts -/
/-- at a a dict of the written part: what it has, by its pairs -/
structure KD (K : PySem.W.Frag) (w : World) (a : Addr) (kvs : List (Key × V)) : Prop where
  lo : (a == sysModules) = false
  get : ∀ (P : Program) (h : Heap), K.In h → ∃ f : Key → Option Value, h.MapOf (mixKind P w) a f ∧ ∀ k, RelO (valV kvs k) (f k)
def rIxKD (K : PySem.W.Frag) (w : World) : R2 := fun x y H Q => ∃ a kvs k v, x = .ref a ∧ y = kV k ∧ KD K w a kvs ∧ valV kvs k = some v ∧ Q v H
def rInKD (K : PySem.W.Frag) (w : World) : R2 := fun x y H Q => ∃ a kvs k, y = .ref a ∧ x = kV k ∧ KD K w a kvs ∧ Q (.bl (valV kvs k).isSome) H
def rInNotKD (K : PySem.W.Frag) (w : World) : R2 := fun x y H Q => ∃ a kvs k, y = .ref a ∧ x = kV k ∧ KD K w a kvs ∧ Q (.bl (!(valV kvs k).isSome)) H
section
variable {X : Cx}
theorem ix_KD : IxR X (rIxKD X.K X.w) := by
  intro base part pins s σ H x y v u Q I rx ry go hs
  obtain ⟨a, kvs, k, r, rfl, rfl, D, hv, q⟩ := go
  cases (show v = Value.ref a from rx)
  obtain ⟨f, isD, same⟩ := D.get X.prog s.heap I.kIn
  have hk := same k
  rw [hv] at hk
  obtain ⟨z, hz, rz⟩ := RelO.some_of hk
  exact tail_any isD.typeIs slot_dict_getitem.lookup (wpAny_getItem_of (kV_is ry) isD hz ⟨r, H, I.tok _, rz, q⟩) hs
theorem op_inKD : OpR X (compareOp .In) (rInKD X.K X.w) := by
  intro pins s σ H x y v u Q I rx ry go
  obtain ⟨a, kvs, k, rfl, rfl, D, q⟩ := go
  cases (show u = Value.ref a from ry)
  obtain ⟨f, isD, same⟩ := D.get X.prog s.heap I.kIn
  exact wpAny_in_of (kV_is rx) D.lo isD ⟨.bl _, H, I.tok _, rfl, by rw [← (same k).isSome_eq]; exact q⟩
theorem op_inNotKD : OpR X (compareOp .NotIn) (rInNotKD X.K X.w) := by
  intro pins s σ H x y v u Q I rx ry go
  obtain ⟨a, kvs, k, rfl, rfl, D, q⟩ := go
  cases (show u = Value.ref a from ry)
  obtain ⟨f, isD, same⟩ := D.get X.prog s.heap I.kIn
  exact wpAny_notIn_of (kV_is rx) D.lo isD ⟨.bl _, H, I.tok _, rfl, by rw [← (same k).isSome_eq]; exact q⟩
end
/-- a written dict with int keys: a look that the head can take -/
def kdI (K : PySem.W.Frag) (a : Addr) (kvs : List (Int × He.Dv)) : Bool := match K.lookup a with
  | some ⟨.type c, none, .dict es _, sl⟩ => decide (c = "dict") && (sl.isEmpty && (!(a == sysModules) && kdAll K es.toList kvs))
  | _ => false
where
  kdAll (K : PySem.W.Frag) : List DictEntry → List (Int × He.Dv) → Bool
    | [], [] => true
    | e :: es, (k, d) :: r => (match e.key with
      | .int j _ => decide (j = k)
      | _ => false) && (decide (e.hash = hashInt k) && (He.relB (d.v K) e.val && kdAll K es r))
    | _, _ => false
theorem kdI_find {K : PySem.W.Frag} {w : World} (P : Program) : ∀ {es : List DictEntry} {kvs : List (Int × He.Dv)}, kdI.kdAll K es kvs = true →
    (∀ e ∈ es, ∃ k, (mixKind P w).is k e.key = true ∧ e.hash = (mixKind P w).hash k) ∧
    ∀ k, RelO (valV (kvs.map fun p => ((Sum.inl p.1 : Key), p.2.v K)) k) ((es.find? fun e => (mixKind P w).is k e.key).map (·.val))
  | [], [], _ => ⟨fun e he => (by cases he), fun k => True.intro⟩
  | e :: es, (j, d) :: r, h => by
    obtain ⟨h1, h2⟩ := He.ba (show ((match e.key with
      | .int i _ => decide (i = j)
      | _ => false) && (decide (e.hash = hashInt j) && (He.relB (d.v K) e.val && kdI.kdAll K es r))) = true from h)
    obtain ⟨h3, h4⟩ := He.ba h2
    obtain ⟨h5, h6⟩ := He.ba h4
    obtain ⟨i1, i2⟩ := kdI_find (w := w) P h6
    obtain ⟨t, ek⟩ : ∃ t, e.key = .int j t := by
      cases q : e.key with
      | int i t =>
        rw [q] at h1
        exact ⟨t, by rw [of_decide_eq_true h1]⟩
      | _ =>
        rw [q] at h1
        cases h1
    have e1 : (mixKind P w).is (Sum.inl j : Key) e.key = true := by
      rw [ek]
      exact keyIs_int j t
    refine ⟨fun e' he => ?_, fun k => ?_⟩
    · rcases List.mem_cons.mp he with q | q
      · rw [q]
        exact ⟨Sum.inl j, e1, of_decide_eq_true h3⟩
      · exact i1 e' q
    · rw [List.map_cons]
      by_cases q : (Sum.inl j : Key) = k
      · have q2 : (mixKind P w).is k e.key = true := by rw [← q]; exact e1
        rw [List.find?_cons_of_pos (p := fun (e : DictEntry) => (mixKind P w).is k e.key) q2, valV_pos (p := ((Sum.inl j : Key), d.v K)) q]
        exact He.relB_ok h5
      · have q2 : ¬ (mixKind P w).is k e.key = true := fun z => q ((mixKind P w).inj _ _ _ e1 z)
        rw [List.find?_cons_of_neg (p := fun (e : DictEntry) => (mixKind P w).is k e.key) q2, valV_neg (p := ((Sum.inl j : Key), d.v K)) q]
        exact i2 k
  | [], _ :: _, h => by cases h
  | _ :: _, [], h => by cases h
theorem kdI_ok {K : PySem.W.Frag} {w : World} {a : Addr} {kvs : List (Int × He.Dv)} (h : kdI K a kvs = true) : KD K w a (kvs.map fun p => (Sum.inl p.1, p.2.v K)) := by
  unfold kdI at h
  cases q : K.lookup a with
  | none =>
    rw [q] at h
    cases h
  | some o =>
    obtain ⟨oc, od, dt, osl⟩ := o
    rw [q] at h
    cases oc with
    | type c =>
      cases od with
      | none =>
        cases dt with
        | dict es n =>
          obtain ⟨h1, h2⟩ := He.ba (show (decide (c = "dict") && (osl.isEmpty && (!(a == sysModules) && kdI.kdAll K es.toList kvs))) = true from h)
          obtain ⟨h3, h4⟩ := He.ba h2
          obtain ⟨h5, h6⟩ := He.ba h4
          have e1 : c = "dict" := of_decide_eq_true h1
          have e2 : osl = #[] := Array.isEmpty_iff.mp h3
          have notSys : (a == sysModules) = false := by
            cases y : (a == sysModules) with
            | false => rfl
            | true =>
              rw [y] at h5
              cases h5
          subst e1 e2
          refine ⟨notSys, fun P hp X => ?_⟩
          obtain ⟨i1, i2⟩ := kdI_find (w := w) P h6
          refine ⟨fun k => findBy (mixKind P w).is es k, ⟨_, es, n, X _ _ q, ⟨rfl, rfl, rfl⟩, rfl, fun e he => i1 e (Array.mem_toList_iff.mpr he), fun k => rfl⟩, fun k => ?_⟩
          have z := i2 k
          obtain ⟨l⟩ := es
          show RelO _ ((Array.find? (fun e => (mixKind P w).is k e.key) l.toArray).map (·.val))
          rw [List.find?_toArray]
          exact z
        | _ => cases h
      | some _ => cases dt <;> (cases h)
    | _ => cases od <;> cases dt <;> (cases h)

/-! ## defs that are called by their names -/
abbrev FnP (K : PySem.W.Frag) (x : Str) (st : Stmt) (f : Addr) (fd : FuncData) : Prop := FunD K x x (defArgs st) (defBody st) (defScope st) [] [] f fd
/-- a def that may be called by its name, every parameter given -/
structure Cl (P : Program) (w : World) (K : PySem.W.Frag) (mg : Str → Option Value) (base : Heap) (k : Nat) (x : Str) (sp : Sp) : Prop where
  ex : ∃ (f : Addr) (fd : FuncData) (ps : List Str), FnOk P w K mg base CX0 k f fd ps sp ∧ mg x = some (.ref f) ∧ PySem.W.keepIn K (.ref f) = true ∧ Binds K fd ps []
section
variable {K : PySem.W.Frag} {P : Program} {w : World} {base : Heap} {mg : Str → Option Value}
theorem fn_of1 {x : Str} {st : Stmt} {f : Addr} {fd : FuncData} {N ps : List Str} {k : Nat} {sp : Sp} (D : FnP K x st f fd) (S : FnScope N ps (defScope st)) (len : ∀ vs H Q E, sp vs H Q E → vs.length = ps.length)
    (hbody : ∀ (cdv : Value) (A : Around) (outer : List Env) (s : Shared) (H : Hp) (vs : List V) (Q : VK) (E : XK), Room k (A.deeper (envOfC x (defScope st) s.heap.objs.size f cdv)) → sp vs H Q E →
      ∃ t, PSs (cxOf CX0 P w K mg base N x (defScope st) f cdv A outer s H E) (defBody st) t ∧ t { nx := fun _ H' => Q .non H', rt := Q } (start N vs) H) : FnOk P w K mg base CX0 (k + 1) f fd ps sp :=
  FunD.ok D S len hbody
theorem cl_of {x : Str} {st : Stmt} {f : Addr} {fd : FuncData} {N ps : List Str} {k : Nat} {sp : Sp} (D : FnP K x st f fd) (hm : mg x = some (.ref f)) (hb : Binds K fd ps []) (S : FnScope N ps (defScope st)) (len : ∀ vs H Q E, sp vs H Q E → vs.length = ps.length)
    (hbody : ∀ (cdv : Value) (A : Around) (outer : List Env) (s : Shared) (H : Hp) (vs : List V) (Q : VK) (E : XK), Room k (A.deeper (envOfC x (defScope st) s.heap.objs.size f cdv)) → sp vs H Q E →
      ∃ t, PSs (cxOf CX0 P w K mg base N x (defScope st) f cdv A outer s H E) (defBody st) t ∧ t { nx := fun _ H' => Q .non H', rt := Q } (start N vs) H) : Cl P w K mg base (k + 1) x sp :=
  ⟨f, fd, ps, fn_of1 D S len hbody, hm, D.kp, hb⟩
end
section
variable {X : Cx} {k j : Nat} {x : Str} {sp : Sp} {p pos : Pos} {e : Expr} {es : List Expr} {t : TA}
theorem pe_cl (c : Cl X.prog X.w X.K X.mg X.base k x sp) (hr : Room j X.A) (hk : k ≤ j) (hg : Gl X x) (ha : PA X (e :: es) t)
    (hdb : (x == ("__debug__" : Str)) = false := by decide) (he : starEach (e :: es) X.env = (false, eval e X.env) :: starEach es X.env := by rfl) (hpl : (backTo pos (starEach es X.env)).any (·.1) = false := by rfl) :
    PE X (.Call (.Name x p) (e :: es) [] pos) (tCall sp [] E0 t) := by
  obtain ⟨f, fd, ps, F, hm, kp, b⟩ := c.ex
  exact pe_call F (hr.mono hk) hg hm kp b .nil pass0 ha hdb he hpl
theorem pe_cl0 (c : Cl X.prog X.w X.K X.mg X.base k x sp) (hr : Room j X.A) (hk : k ≤ j) (hg : Gl X x)
    (hdb : (x == ("__debug__" : Str)) = false := by decide) :
    PE X (.Call (.Name x p) [] [] pos) (tCall sp [] E0 tNil) := by
  obtain ⟨f, fd, ps, F, hm, kp, b⟩ := c.ex
  exact pe_call0 F (hr.mono hk) hg hm kp b .nil pass0 hdb
end

/-! ## heaps -/
theorem same_upd {H : Hp} {p : Addr} {o : HO} (h : H p = none) : Same H (upd H p o) := fun b x e => by
  rw [upd_ne (ne_of_none e h)]
  exact e
theorem upd_get {H : Hp} {p a : Addr} {o x : HO} (h : H p = none) (e : H a = some x) : upd H p o a = some x := same_upd h a x e
theorem upd_mut {H : Hp} {p a : Addr} {o x : HO} (h : a ≠ p) (e : H a = some x) : upd H p o a = some x := by
  rw [upd_ne h]
  exact e
/-- the heap without what stands at r -/
def but (r : Addr) (H : Hp) : Hp := fun a => if a = r then none else H a
theorem but_same {r : Addr} {H : Hp} : Same (but r H) H := fun b o e => by
  unfold but at e
  split at e
  · cases e
  · exact e
theorem but_none {r : Addr} {H : Hp} : but r H r = none := by
  unfold but
  rw [if_pos rfl]
theorem but_get {r a : Addr} {H : Hp} {o : HO} (h : a ≠ r) (e : H a = some o) : but r H a = some o := by
  unfold but
  rw [if_neg h]
  exact e
theorem but_upd {r : Addr} {H : Hp} {o : HO} : but r (upd H r o) = but r H := by
  funext a
  unfold but upd
  by_cases h : a = r
  · rw [if_pos h, if_pos h]
  · rw [if_neg h, if_neg h, if_neg h]
theorem Same.but {r : Addr} {H H' : Hp} (h : Same H H') : Same (but r H) (but r H') := fun b o e => by
  unfold Rl.but at e ⊢
  split at e
  · cases e
  · rename_i q
    rw [if_neg q]
    exact h b o e
theorem sm_new {A H : Hp} {p : Addr} {o : HO} (h : H p = none) (e : Same A H) : Same A (upd H p o) := e.trans (same_upd h)
theorem sm_bnew {A H : Hp} {p r : Addr} {o : HO} (h : H p = none) (e : Same A (Rl.but r H)) : Same A (Rl.but r (upd H p o)) := e.trans (Same.but (same_upd h))
theorem sm_bmut {A H : Hp} {r : Addr} {o : HO} (e : Same A (Rl.but r H)) : Same A (Rl.but r (upd H r o)) := by
  rw [but_upd]
  exact e
theorem sm_by {A H H' : Hp} (h : Same H H') (e : Same A H) : Same A H' := e.trans h
theorem sm_bby {A H H' : Hp} {r : Addr} (h : Same H H') (e : Same A (Rl.but r H)) : Same A (Rl.but r H') := e.trans (Same.but h)
theorem same_but {t : Addr} {H : Hp} (h : H t = none) : Same H (Rl.but t H) := fun a o e => but_get (ne_of_none e h) e
theorem Same.of_but {r : Addr} {H H' : Hp} (h : Same (Rl.but r H) (Rl.but r H')) {a : Addr} {o : HO} (n : a ≠ r) (e : H a = some o) : H' a = some o := but_same a o (h a o (but_get n e))
theorem Same.seqT {K : PySem.W.Frag} {H H' : Hp} {a : Addr} {xs : List V} (e : Same H H') (h : SqT K H a xs) : SqT K H' a xs := by
  rcases h with (g | ⟨o, g⟩) | g
  · exact .inl (.inl (e _ _ g))
  · exact .inl (.inr ⟨o, e _ _ g⟩)
  · exact .inr g
theorem SqL.mono {K : PySem.W.Frag} {H H' : Hp} {a : Addr} {xs : List V} (e : Same H H') (h : SqL K H a xs) : SqL K H' a xs := e.seq h
theorem SqT.mono {K : PySem.W.Frag} {H H' : Hp} {a : Addr} {xs : List V} (e : Same H H') (h : SqT K H a xs) : SqT K H' a xs := Same.seqT e h
mutual
theorem Dp.mono {K : PySem.W.Frag} {H H' : Hp} (e : Same H H') : ∀ {d : PyData} {v : V}, Dp K H v d → Dp K H' v d
  | _, _, .non => .non
  | _, _, .bl b => .bl b
  | _, _, .int i => .int i
  | _, _, .str x => .str x
  | _, _, .lst hs ha => .lst (e.seq hs) (DpAll.mono e ha)
  | _, _, .tup hs ha => .tup (Same.seqT e hs) (DpAll.mono e ha)
theorem DpAll.mono {K : PySem.W.Frag} {H H' : Hp} (e : Same H H') : ∀ {ds : List PyData} {vs : List V}, DpAll K H vs ds → DpAll K H' vs ds
  | _, _, .nil => .nil
  | _, _, .cons a b => .cons (Dp.mono e a) (DpAll.mono e b)
end
theorem dp_none {K : PySem.W.Frag} {H : Hp} {v : V} (h : Dp K H v .none) : v = .non := by
  cases h
  rfl
theorem dp_int {K : PySem.W.Frag} {H : Hp} {v : V} {i : Int} (h : Dp K H v (.int i)) : v = .int i := by
  cases h
  rfl
theorem dp_bool {K : PySem.W.Frag} {H : Hp} {v : V} {i : Bool} (h : Dp K H v (.bool i)) : v = .bl i := by
  cases h
  rfl
theorem dp_str {K : PySem.W.Frag} {H : Hp} {v : V} {i : Str} (h : Dp K H v (.str i)) : v = .str i := by
  cases h
  rfl
theorem dp_tup {K : PySem.W.Frag} {H : Hp} {v : V} {ds : List PyData} (h : Dp K H v (.tuple ds)) : ∃ p xs, v = .ref p ∧ SqT K H p xs ∧ DpAll K H xs ds := by
  cases h with
  | tup hs ha => exact ⟨_, _, rfl, hs, ha⟩
theorem dp_lst {K : PySem.W.Frag} {H : Hp} {v : V} {ds : List PyData} (h : Dp K H v (.list ds)) : ∃ p xs, v = .ref p ∧ SqL K H p xs ∧ DpAll K H xs ds := by
  cases h with
  | lst hs ha => exact ⟨_, _, rfl, hs, ha⟩
theorem DpAll.length {K : PySem.W.Frag} {H : Hp} : ∀ {vs : List V} {ds : List PyData}, DpAll K H vs ds → vs.length = ds.length
  | _, _, .nil => rfl
  | _, _, .cons _ t => by rw [List.length_cons, List.length_cons, DpAll.length t]
theorem DpAll.get {K : PySem.W.Frag} {H : Hp} : ∀ {vs : List V} {ds : List PyData}, DpAll K H vs ds → ∀ {i : Nat} {v : V}, vs[i]? = some v → ∃ d, ds[i]? = some d ∧ Dp K H v d
  | _, _, .nil, i, v, h => by cases h
  | _, _, .cons (d := d) a t, 0, v, h => ⟨d, rfl, by
    have e := Option.some.inj h
    rw [← e]
    exact a⟩
  | _, _, .cons _ t, i + 1, v, h => DpAll.get t (i := i) h
theorem DpAll.ints {K : PySem.W.Frag} {H : Hp} : ∀ ns : List Int, DpAll K H (ns.map V.int) (ns.map PyData.int)
  | [] => .nil
  | n :: ns => .cons (.int n) (DpAll.ints ns)
theorem DpAll.of_ints {K : PySem.W.Frag} {H : Hp} : ∀ {vs : List V} {ns : List Int}, DpAll K H vs (ns.map PyData.int) → vs = ns.map V.int
  | _, [], h => by
    cases h
    rfl
  | _, n :: ns, h => by
    cases h with
    | cons a t => rw [dp_int a, DpAll.of_ints t]; rfl
/-! ## slices, repeated lists -/
theorem drop_min {α : Type} (xs : List α) (k : Nat) : xs.drop (min k xs.length) = xs.drop k := by
  by_cases h : k ≤ xs.length
  · rw [Nat.min_eq_left h]
  · rw [Nat.min_eq_right (by omega), List.drop_length, List.drop_eq_nil_of_le (by omega)]
theorem take_min {α : Type} (xs : List α) (k : Nat) : xs.take (min k xs.length) = xs.take k := by
  by_cases h : k ≤ xs.length
  · rw [Nat.min_eq_left h]
  · rw [Nat.min_eq_right (by omega), List.take_length, List.take_of_length_le (by omega)]
/-- xs[k:] -/
theorem cut_from (xs : List V) (k : Nat) : cutV xs (some (k : Int)) none = xs.drop k := by
  unfold cutV
  rw [HT.sIx_nat, HT.sIx_none, drop_min]
  refine List.take_of_length_le ?_
  rw [List.length_drop]
  omega
/-- xs[:k] -/
theorem cut_to (xs : List V) (k : Nat) : cutV xs none (some (k : Int)) = xs.take k := by
  unfold cutV
  rw [HT.sIx_nat, HT.sIx_none, List.drop_zero, Nat.sub_zero, take_min]
theorem cut_fromI (xs : List V) {i : Int} (h : 0 ≤ i) : cutV xs (some i) none = xs.drop i.toNat := by
  have e : ((i.toNat : Nat) : Int) = i := Int.toNat_of_nonneg h
  rw [← cut_from, e]
theorem cut_toI (xs : List V) {i : Int} (h : 0 ≤ i) : cutV xs none (some i) = xs.take i.toNat := by
  have e : ((i.toNat : Nat) : Int) = i := Int.toNat_of_nonneg h
  rw [← cut_to, e]
theorem rep_if (x : V) (b : Bool) : (List.replicate (if b then (1 : Int) else 0).toNat [x]).flatten = if b then [x] else [] := by
  cases b <;> rfl
theorem rep_one (x : V) (n : Nat) : (List.replicate n [x]).flatten = List.replicate n x := by
  induction n with
  | zero => rfl
  | succ n ih => rw [List.replicate_succ, List.flatten_cons, ih]; rfl
/-! ## the type of data -/
def tyD : PyData → String
  | .none => "NoneType"
  | .bool _ => "bool"
  | .int _ => "int"
  | .str _ => "str"
  | .list _ => "list"
  | .tuple _ => "tuple"
  | .dict _ => "dict"
theorem sql_ty {K : PySem.W.Frag} {H : Hp} {a : Addr} {xs : List V} (h : SqL K H a xs) : TyX K H (.ref a) (.type "list") := by
  rcases h with (h | ⟨o, h⟩) | ⟨o, its, n, h1, h2, _⟩
  · exact .base (.lst h)
  · exact .base (.frz h)
  · exact .kList h1 h2
theorem sqt_ty {K : PySem.W.Frag} {H : Hp} {a : Addr} {xs : List V} (h : SqT K H a xs) : TyX K H (.ref a) (.type "tuple") := by
  rcases h with (h | ⟨o, h⟩) | ⟨o, its, n, h1, h2, _⟩
  · exact .base (.tup h)
  · exact .fTuple h
  · exact .kTuple h1 h2
theorem Dp.ty {K : PySem.W.Frag} {H : Hp} {v : V} {d : PyData} (h : Dp K H v d) : TyX K H v (.type (tyD d)) := by
  cases h with
  | non => exact .base .non
  | bl b => exact .base (.bl b)
  | int i => exact .base (.int i)
  | str x => exact .base (.str x)
  | lst hs _ => exact sql_ty hs
  | tup hs _ => exact sqt_ty hs
end Rl
namespace Rl.R
open PySem PySem.Spec PyProof.Rows L2 Rl
/-! ## one step of a reading -/
section
variable {K : PySem.W.Frag} {σ : L2.St} {H : Hp} {Q : VK} {QA : List V → Hp → Prop} {QB : Bool → Hp → Prop} {ta tb tc te : TE} {tr : TA} {x y z v : V} {i j : Int} {n : Nat}
theorem var (q : Q v H) (h : σ[n]? = some (some v) := by with_unfolding_all rfl) : tVar n σ H Q := ⟨v, h, q⟩
theorem c (q : Q v H) : tC v σ H Q := q
theorem op {r : R2} (q : ta σ H fun x H1 => tb σ H1 fun y H2 => r x y H2 Q) : tOp r ta tb σ H Q := q
theorem un {r : V → Hp → VK → Prop} (q : ta σ H fun x H1 => r x H1 Q) : tUn r ta σ H Q := q
theorem neg (q : Q (.int (-i)) H) : rU (fun i => .int (-i)) (.int i) H Q := ⟨i, rfl, q⟩
theorem test (q : te σ H fun x H' => ∃ k, x = .bl k ∧ QB k H') : tTest te σ H QB := q
theorem tB' (q : te σ H fun x H' => ∃ k, x = .bl k ∧ QB k H') : tB te σ H QB := q
theorem bl {b : Bool} {F : Bool → Prop} (q : F b) : ∃ k, V.bl b = .bl k ∧ F k := ⟨b, rfl, q⟩
theorem tru (q : te σ H fun x H' => ∃ k, TruV K x H' k ∧ QB k H') : tTru K te σ H QB := q
theorem and' {t u : TT} (q : t σ H fun c H1 => if c = true then u σ H1 QB else QB false H1) : tAnd t u σ H QB := q
theorem or' {t u : TT} (q : t σ H fun c H1 => if c = true then QB true H1 else u σ H1 QB) : tOr t u σ H QB := q
theorem not' {t : TT} (q : t σ H fun c H1 => QB (!c) H1) : tNot t σ H QB := q
theorem yes (q : QB true H) : tYes σ H QB := q
theorem andV (q : ta σ H fun x H1 => ∃ c, x = .bl c ∧ if c = true then tb σ H1 Q else Q (.bl false) H1) : tAndV ta tb σ H Q := q
theorem orV (q : ta σ H fun x H1 => ∃ c, x = .bl c ∧ if c = true then Q (.bl true) H1 else tb σ H1 Q) : tOrV ta tb σ H Q := q
theorem notV (q : ta σ H fun x H1 => ∃ c, x = .bl c ∧ Q (.bl (!c)) H1) : tNotV ta σ H Q := q
theorem ifE {t : TT} (q : t σ H fun c H1 => if c = true then ta σ H1 Q else tb σ H1 Q) : tIf t ta tb σ H Q := q
theorem cons (q : ta σ H fun x H1 => tr σ H1 fun xs H2 => QA (x :: xs) H2) : tCons ta tr σ H QA := q
theorem nil (q : QA [] H) : tNil σ H QA := q
theorem call {sp : Sp} {E : XK} (q : tr σ H fun vs H1 => sp (vs ++ []) H1 Q E) : tCall sp [] E tr σ H Q := q
theorem app {sp : Sp} {E : XK} {vs : List V} (q : sp vs H Q E) : sp (vs ++ []) H Q E := by
  rw [List.append_nil]
  exact q
theorem cb {r : List V → Hp → VK → Prop} (q : tr σ H fun vs H1 => r vs H1 Q) : tCB r tr σ H Q := q
theorem tup (q : tr σ H fun xs H1 => xs.length ≤ sizeLine ∧ ∀ p, H1 p = none → Q (.ref p) (upd H1 p (.tup xs))) : tTup tr σ H Q := q
theorem lst (q : tr σ H fun xs H1 => xs.length ≤ sizeLine ∧ ∀ p, H1 p = none → Q (.ref p) (upd H1 p (.lst xs))) : tLst tr σ H Q := q
theorem sl {r : V → Option Int → Option Int → Hp → VK → Prop} {tl th : TO} (q : te σ H fun x H1 => tl σ H1 fun l H2 => th σ H2 fun u H3 => r x l u H3 Q) : tSl r te tl th σ H Q := q
theorem noPart {QO : Option Int → Hp → Prop} (q : QO none H) : tNoPart σ H QO := q
theorem part {QO : Option Int → Hp → Prop} (q : te σ H fun x H1 => ∃ i, x = .int i ∧ QO (some i) H1) : tPart te σ H QO := q
theorem exI {F : Int → Prop} (q : F i) : ∃ k, V.int i = .int k ∧ F k := ⟨i, rfl, q⟩
theorem chain {r r' : R2} (q : ta σ H fun x H1 => tb σ H1 fun y H2 => r x y H2 fun z H3 => ∃ k, z = .bl k ∧ (if k = true then tc σ H3 fun w' H4 => r' y w' H4 Q else Q (.bl false) H3)) : tChain r r' ta tb tc σ H Q := q
/-! operators by values -/
theorem addI (q : Q (.int (i + j)) H) : rAddA K (.int i) (.int j) H Q := .inl ⟨i, j, rfl, rfl, q⟩
theorem addS {a b : Str} (h : a.length + b.length ≤ sizeLine) (q : Q (.str (a ++ b)) H) : rAddA K (.str a) (.str b) H Q := .inr (.inl ⟨a, b, rfl, rfl, h, q⟩)
theorem cat {p b : Addr} {xs ys : List V} (h : H p = some (.lst xs)) (h2 : H b = some (.lst ys)) (hl : xs.length + ys.length ≤ sizeLine) (q : ∀ l, H l = none → Q (.ref l) (upd H l (.lst (xs ++ ys)))) : rAddA K (.ref p) (.ref b) H Q :=
  .inr (.inr (.inl ⟨p, b, xs, ys, rfl, rfl, h, h2, hl, q⟩))
theorem catT {p b : Addr} {xs ys : List V} (h : SqT K H p xs) (h2 : SqT K H b ys) (h0 : xs ≠ []) (hl : xs.length + ys.length ≤ sizeLine) (q : ys = [] → Q (.ref p) H) (q2 : ys ≠ [] → ∀ l, H l = none → Q (.ref l) (upd H l (.tup (xs ++ ys)))) : rAddA K (.ref p) (.ref b) H Q :=
  .inr (.inr (.inr ⟨p, b, xs, ys, rfl, rfl, h, h2, h0, hl, q, q2⟩))
theorem subI (q : Q (.int (i - j)) H) : rSubA (.int i) (.int j) H Q := ⟨i, j, rfl, rfl, q⟩
theorem mulI (h : CMulA i j) (q : Q (.int (i * j)) H) : rMulA (.int i) (.int j) H Q := .inl ⟨i, j, rfl, rfl, h, q⟩
theorem rep {p : Addr} {xs : List V} (h : H p = some (.lst xs)) (h1 : -(2 ^ 63) ≤ i) (h2 : i < 2 ^ 63) (hl : xs.length * i.toNat ≤ sizeLine) (q : ∀ l, H l = none → Q (.ref l) (upd H l (.lst (List.replicate i.toNat xs).flatten))) : rMulA (.ref p) (.int i) H Q :=
  .inr ⟨p, i, xs, rfl, rfl, h, h1, h2, hl, q⟩
theorem modI (h : 0 < j) (q : Q (.int (i % j)) H) : rModA (.int i) (.int j) H Q := ⟨i, j, rfl, rfl, h, q⟩
theorem divI (h : CDivW i j) (q : Q (.int (i / j)) H) : rDivA (.int i) (.int j) H Q := ⟨i, j, rfl, rfl, h, q⟩
theorem powI (h : CPow i j) (q : Q (.int (i ^ j.toNat)) H) : rPowA (.int i) (.int j) H Q := ⟨i, j, rfl, rfl, h, q⟩
theorem shlI (h : CPow i j) (q : Q (.int (i * 2 ^ j.toNat)) H) : rShlA (.int i) (.int j) H Q := ⟨i, j, rfl, rfl, h, q⟩
theorem shrI (h : 0 ≤ j) (q : Q (.int (i / 2 ^ j.toNat)) H) : rShrA (.int i) (.int j) H Q := ⟨i, j, rfl, rfl, h, q⟩
theorem andI (q : Q (.int (Builtin.bitAnd i j)) H) : rAndA (.int i) (.int j) H Q := ⟨i, j, rfl, rfl, q⟩
theorem and3 (q : Q (.int (i % 4)) H) : rAndA (.int i) (.int 3) H Q := ⟨i, 3, rfl, rfl, by show Q (.int (Builtin.bitAnd i 3)) H; rw [bitAnd_m2]; exact q⟩
theorem and15 (h : 0 ≤ i) (q : Q (.int (i % 16)) H) : rAndA (.int i) (.int 15) H Q := ⟨i, 15, rfl, rfl, by show Q (.int (Builtin.bitAnd i 15)) H; rw [show Builtin.bitAnd i 15 = i % 16 from Bits.bitAnd_mask 4 h]; exact q⟩
theorem shr4 (q : Q (.int (i / 16)) H) : rShrA (.int i) (.int 4) H Q := ⟨i, 4, rfl, rfl, (by decide : (0 : Int) ≤ 4), q⟩
theorem shr2 (q : Q (.int (i / 4)) H) : rShrA (.int i) (.int 2) H Q := ⟨i, 2, rfl, rfl, (by decide : (0 : Int) ≤ 2), q⟩
theorem orI (q : Q (.int (Builtin.bitOr i j)) H) : rOrA (.int i) (.int j) H Q := ⟨i, j, rfl, rfl, q⟩
theorem xorI (q : Q (.int (Builtin.bitXor i j)) H) : rXorA (.int i) (.int j) H Q := ⟨i, j, rfl, rfl, q⟩
theorem ltI (q : Q (.bl (decide (i < j))) H) : rLtA (.int i) (.int j) H Q := ⟨i, j, rfl, rfl, q⟩
theorem leI (q : Q (.bl (decide (i ≤ j))) H) : rLeA (.int i) (.int j) H Q := ⟨i, j, rfl, rfl, q⟩
theorem gtI (q : Q (.bl (decide (j < i))) H) : rGtA (.int i) (.int j) H Q := ⟨i, j, rfl, rfl, q⟩
theorem geI (q : Q (.bl (decide (j ≤ i))) H) : rGeA (.int i) (.int j) H Q := ⟨i, j, rfl, rfl, q⟩
theorem dI : decide (V.int i = V.int j) = decide (i = j) := by
  rw [dec_int]
  exact (Bool.beq_eq_decide_eq i j)
theorem dS {a b : Str} : decide (V.str a = V.str b) = decide (a = b) := by
  by_cases h : a = b
  · rw [h, decide_eq_true rfl, decide_eq_true rfl]
  · rw [decide_eq_false h, decide_eq_false fun q => h (V.str.inj q)]
theorem dB {a b : Bool} : decide (V.bl a = V.bl b) = decide (a = b) := by
  by_cases h : a = b
  · rw [h, decide_eq_true rfl, decide_eq_true rfl]
  · rw [decide_eq_false h, decide_eq_false fun q => h (V.bl.inj q)]
theorem eqI (q : Q (.bl (decide (i = j))) H) : rEqA K (.int i) (.int j) H Q := .inl ⟨rfl, by rw [dI]; exact q⟩
theorem eqS {a b : Str} (q : Q (.bl (decide (a = b))) H) : rEqA K (.str a) (.str b) H Q := .inl ⟨rfl, by rw [dS]; exact q⟩
theorem eqB {a b : Bool} (q : Q (.bl (decide (a = b))) H) : rEqA K (.bl a) (.bl b) H Q := .inl ⟨rfl, by rw [dB]; exact q⟩
theorem neI (q : Q (.bl (!decide (i = j))) H) : rNeA K (.int i) (.int j) H Q := .inl ⟨rfl, by rw [dI]; exact q⟩
theorem neS {a b : Str} (q : Q (.bl (!decide (a = b))) H) : rNeA K (.str a) (.str b) H Q := .inl ⟨rfl, by rw [dS]; exact q⟩
theorem neB {a b : Bool} (q : Q (.bl (!decide (a = b))) H) : rNeA K (.bl a) (.bl b) H Q := .inl ⟨rfl, by rw [dB]; exact q⟩
theorem eqD {d e : PyData} (hx : Dp K H x d) (hy : Dp K H y e) (sd : SeqAt.shaped d = true) (se : SeqAt.shaped e = true) (q : Q (.bl (PyData.eqv d e)) H) : rEqA K x y H Q := .inr ⟨d, e, hx, hy, sd, se, q⟩
theorem neD {d e : PyData} (hx : Dp K H x d) (hy : Dp K H y e) (sd : SeqAt.shaped d = true) (se : SeqAt.shaped e = true) (q : Q (.bl (!PyData.eqv d e)) H) : rNeA K x y H Q := .inr ⟨d, e, hx, hy, sd, se, q⟩
theorem isN (q : Q (.bl (decide (x = .non))) H) : rIsN x .non H Q := ⟨rfl, q⟩
theorem notN (q : Q (.bl (!decide (x = .non))) H) : rNotN x .non H Q := ⟨rfl, q⟩
theorem isNn (q : Q (.bl true) H) : rIsN .non .non H Q := ⟨rfl, by rw [decide_eq_true rfl]; exact q⟩
theorem isNr {p : Addr} (q : Q (.bl false) H) : rIsN (.ref p) .non H Q := ⟨rfl, by rw [decide_eq_false fun z => nomatch z]; exact q⟩
theorem isNi (q : Q (.bl false) H) : rIsN (.int i) .non H Q := ⟨rfl, by rw [decide_eq_false fun z => nomatch z]; exact q⟩
theorem isNb {b : Bool} (q : Q (.bl false) H) : rIsN (.bl b) .non H Q := ⟨rfl, by rw [decide_eq_false fun z => nomatch z]; exact q⟩
theorem isNs {s : Str} (q : Q (.bl false) H) : rIsN (.str s) .non H Q := ⟨rfl, by rw [decide_eq_false fun z => nomatch z]; exact q⟩
theorem notNb {b : Bool} (q : Q (.bl true) H) : rNotN (.bl b) .non H Q := ⟨rfl, by rw [decide_eq_false fun z => nomatch z]; exact q⟩
theorem notNs {s : Str} (q : Q (.bl true) H) : rNotN (.str s) .non H Q := ⟨rfl, by rw [decide_eq_false fun z => nomatch z]; exact q⟩
theorem eqBx {b : Bool} (q : Q (.bl true) H) : rEqA K (.bl b) (.bl b) H Q := eqB (by rw [decide_eq_true rfl]; exact q)
theorem neBx {b : Bool} (q : Q (.bl false) H) : rNeA K (.bl b) (.bl b) H Q := neB (by rw [decide_eq_true rfl]; exact q)
theorem eqIx {i : Int} (q : Q (.bl true) H) : rEqA K (.int i) (.int i) H Q := eqI (by rw [decide_eq_true rfl]; exact q)
theorem neIx {i : Int} (q : Q (.bl false) H) : rNeA K (.int i) (.int i) H Q := neI (by rw [decide_eq_true rfl]; exact q)
theorem eqSx {b : Str} (q : Q (.bl true) H) : rEqA K (.str b) (.str b) H Q := eqS (by rw [decide_eq_true rfl]; exact q)
theorem neSx {b : Str} (q : Q (.bl false) H) : rNeA K (.str b) (.str b) H Q := neS (by rw [decide_eq_true rfl]; exact q)
theorem notNn (q : Q (.bl false) H) : rNotN .non .non H Q := ⟨rfl, by rw [decide_eq_true rfl]; exact q⟩
theorem notNr {p : Addr} (q : Q (.bl true) H) : rNotN (.ref p) .non H Q := ⟨rfl, by rw [decide_eq_false fun z => nomatch z]; exact q⟩
theorem notNi (q : Q (.bl true) H) : rNotN (.int i) .non H Q := ⟨rfl, by rw [decide_eq_false fun z => nomatch z]; exact q⟩
theorem inKDi {a : Addr} {w : World} {kvs : List (Key × V)} (D : KD K w a kvs) (q : Q (.bl (valV kvs (Sum.inl i)).isSome) H) : rInKD K w (.int i) (.ref a) H Q := ⟨a, kvs, Sum.inl i, rfl, rfl, D, q⟩
theorem inKDs {a : Addr} {w : World} {kvs : List (Key × V)} {s : Str} (D : KD K w a kvs) (q : Q (.bl (valV kvs (Sum.inr s)).isSome) H) : rInKD K w (.str s) (.ref a) H Q := ⟨a, kvs, Sum.inr s, rfl, rfl, D, q⟩
theorem ixKDi {a : Addr} {w : World} {kvs : List (Key × V)} (D : KD K w a kvs) (h : valV kvs (Sum.inl i) = some v) (q : Q v H) : rIxKD K w (.ref a) (.int i) H Q := ⟨a, kvs, Sum.inl i, v, rfl, rfl, D, h, q⟩
theorem ixKDs {a : Addr} {w : World} {kvs : List (Key × V)} {s : Str} (D : KD K w a kvs) (h : valV kvs (Sum.inr s) = some v) (q : Q v H) : rIxKD K w (.ref a) (.str s) H Q := ⟨a, kvs, Sum.inr s, v, rfl, rfl, D, h, q⟩
theorem valV_ints {α : Type} {f : α → V} (k : Int) : ∀ l : List (Int × α), valV (l.map fun p => ((Sum.inl p.1 : Key), f p.2)) (Sum.inl k) = (l.lookup k).map f
  | [] => rfl
  | (j, x) :: r => by
    rw [List.map_cons]
    by_cases h : j = k
    · rw [valV_pos (p := ((Sum.inl j : Key), f x)) (by rw [h]), h, List.lookup_cons_self]
      rfl
    · rw [valV_neg (p := ((Sum.inl j : Key), f x)) (fun q => h (Sum.inl.inj q)), valV_ints k r, List.lookup_cons]
      have e : (k == j) = false := beq_eq_false_iff_ne.mpr fun q => h q.symm
      rw [e]
/-! items -/
theorem ixL {p : Addr} {xs : List V} (h : SqL K H p xs) (hi : atI xs i = some v) (q : Q v H) : rIx K (.ref p) (.int i) H Q := .inl ⟨p, xs, i, v, rfl, rfl, h, hi, q⟩
theorem ixT {p : Addr} {xs : List V} (h : SqT K H p xs) (hi : atI xs i = some v) (q : Q v H) : rIx K (.ref p) (.int i) H Q := .inr (.inl ⟨p, xs, i, v, rfl, rfl, h, hi, q⟩)
theorem ixS {s : Str} {k : Nat} (hl : s.length ≤ sizeLine) (hi : atI s.cps.toList i = some k) (q : Q (.str ⟨#[k]⟩) H) : rIx K (.str s) (.int i) H Q := .inr (.inr ⟨s, i, k, rfl, rfl, hl, hi, q⟩)
theorem atI_pos {α : Type} {xs : List α} {v : α} (h0 : 0 ≤ i) (h : xs[i.toNat]? = some v) : atI xs i = some v := by
  have e : ((i.toNat : Nat) : Int) = i := Int.toNat_of_nonneg h0
  rw [← e]
  exact atI_nat h
theorem ixT0 {p : Addr} {xs : List V} (h : SqT K H p (x :: xs)) (q : Q x H) : rIx K (.ref p) (.int 0) H Q := ixT h (atI_pos (Int.le_refl 0) rfl) q
theorem ixT1 {p : Addr} {xs : List V} (h : SqT K H p (x :: y :: xs)) (q : Q y H) : rIx K (.ref p) (.int 1) H Q := ixT h (atI_pos (by decide) rfl) q
theorem ixL0 {p : Addr} {xs : List V} (h : SqL K H p (x :: xs)) (q : Q x H) : rIx K (.ref p) (.int 0) H Q := ixL h (atI_pos (Int.le_refl 0) rfl) q
theorem ixL1 {p : Addr} {xs : List V} (h : SqL K H p (x :: y :: xs)) (q : Q y H) : rIx K (.ref p) (.int 1) H Q := ixL h (atI_pos (by decide) rfl) q
/-- an item of a list of ints -/
theorem ixLI {p : Addr} {ns : List Int} (h : SqL K H p (ns.map V.int)) (h0 : 0 ≤ i) (h1 : i < ns.length) (q : ∀ m, ns[i.toNat]? = some m → m ∈ ns → Q (.int m) H) : rIx K (.ref p) (.int i) H Q := by
  have hl : i.toNat < ns.length := by omega
  have e : ns[i.toNat]? = some ns[i.toNat] := List.getElem?_eq_getElem hl
  exact ixL h (atI_pos h0 (by rw [List.getElem?_map, e]; rfl)) (q _ e (List.mem_of_getElem? e))
/-- any item of a list -/
theorem ixLV {p : Addr} {xs : List V} (h : SqL K H p xs) (h0 : 0 ≤ i) (h1 : i < xs.length) (q : ∀ m, xs[i.toNat]? = some m → m ∈ xs → Q m H) : rIx K (.ref p) (.int i) H Q := by
  have hl : i.toNat < xs.length := by omega
  have e : xs[i.toNat]? = some xs[i.toNat] := List.getElem?_eq_getElem hl
  exact ixL h (atI_pos h0 e) (q _ e (List.mem_of_getElem? e))
theorem ixTV {p : Addr} {xs : List V} (h : SqT K H p xs) (h0 : 0 ≤ i) (h1 : i < xs.length) (q : ∀ m, xs[i.toNat]? = some m → m ∈ xs → Q m H) : rIx K (.ref p) (.int i) H Q := by
  have hl : i.toNat < xs.length := by omega
  have e : xs[i.toNat]? = some xs[i.toNat] := List.getElem?_eq_getElem hl
  exact ixT h (atI_pos h0 e) (q _ e (List.mem_of_getElem? e))
theorem setL {p : Addr} {xs : List V} {QS : Hp → Prop} {k : Nat} (h : H p = some (.lst xs)) (hi : ixN xs.length i = some k) (q : QS (upd H p (.lst (xs.set k v)))) : rSetL (.ref p) (.int i) v H QS := ⟨p, xs, i, k, rfl, rfl, h, hi, q⟩
theorem ixN_pos {n : Nat} (h0 : 0 ≤ i) (h : i < n) : ixN n i = some i.toNat := by
  unfold ixN
  rw [if_pos h0, if_pos h]
theorem setLI {p : Addr} {ns : List Int} {n : Int} {QS : Hp → Prop} (h : H p = some (.lst (ns.map V.int))) (h0 : 0 ≤ i) (h1 : i < ns.length) (q : QS (upd H p (.lst ((ns.set i.toNat n).map V.int)))) : rSetL (.ref p) (.int i) (.int n) H QS :=
  setL (k := i.toNat) h (by rw [List.length_map]; exact ixN_pos h0 h1) (by rw [← List.map_set]; exact q)
theorem gName {QS : L2.St → Hp → Prop} (q : QS (σ.set n (some v)) H) : L2.gName n v σ H QS := q
theorem gSub {to ti : TE} {ts : TSet} {QS : L2.St → Hp → Prop} (q : to σ H fun o H1 => ti σ H1 fun i H2 => ts o i v H2 fun H3 => QS σ H3) : L2.gSub to ti ts v σ H QS := q
theorem gTup {k : Nat} {t : TGs} {p : Addr} {xs : List V} {QS : L2.St → Hp → Prop} (h : SqT K H p xs) (hl : xs.length = k) (q : t xs σ H QS) : L2.gTup K k t (.ref p) σ H QS := ⟨p, xs, rfl, h, hl, q⟩
theorem gCons {t : TG} {u : TGs} {vs : List V} {QS : L2.St → Hp → Prop} (q : t v σ H fun σ' H' => u vs σ' H' QS) : L2.gCons t u (v :: vs) σ H QS := ⟨v, vs, rfl, q⟩
theorem gNil {QS : L2.St → Hp → Prop} (q : QS σ H) : L2.gNil [] σ H QS := ⟨rfl, q⟩
theorem slL {p : Addr} {xs : List V} {lo hi : Option Int} (h : SqL K H p xs) (q : ∀ l, H l = none → Q (.ref l) (upd H l (.lst (cutV xs lo hi)))) : rSlA K (.ref p) lo hi H Q := .inl ⟨p, xs, rfl, h, q⟩
theorem slFrom {p : Addr} {xs : List V} (h : SqL K H p xs) (h0 : 0 ≤ i) (q : ∀ l, H l = none → Q (.ref l) (upd H l (.lst (xs.drop i.toNat)))) : rSlA K (.ref p) (some i) none H Q := slL h (by rw [cut_fromI _ h0]; exact q)
theorem slTo {p : Addr} {xs : List V} (h : SqL K H p xs) (h0 : 0 ≤ i) (q : ∀ l, H l = none → Q (.ref l) (upd H l (.lst (xs.take i.toNat)))) : rSlA K (.ref p) none (some i) H Q := slL h (by rw [cut_toI _ h0]; exact q)
theorem slFromI {p : Addr} {ns : List Int} (h : SqL K H p (ns.map V.int)) (h0 : 0 ≤ i) (q : ∀ l, H l = none → Q (.ref l) (upd H l (.lst ((ns.drop i.toNat).map V.int)))) : rSlA K (.ref p) (some i) none H Q := slFrom h h0 (by rw [← List.map_drop]; exact q)
theorem slToI {p : Addr} {ns : List Int} (h : SqL K H p (ns.map V.int)) (h0 : 0 ≤ i) (q : ∀ l, H l = none → Q (.ref l) (upd H l (.lst ((ns.take i.toNat).map V.int)))) : rSlA K (.ref p) none (some i) H Q := slTo h h0 (by rw [← List.map_take]; exact q)
theorem repIf {p : Addr} {b : Bool} (h : H p = some (.lst [x])) (q : ∀ l, H l = none → Q (.ref l) (upd H l (.lst (if b then [x] else [])))) : rMulA (.ref p) (.int (if b then 1 else 0)) H Q :=
  rep h (by split <;> decide) (by split <;> decide) (by cases b <;> exact (by decide : (1 : Nat) * 1 ≤ sizeLine ∧ 1 * 0 ≤ sizeLine).elim (fun a c => by first | exact a | exact c)) (by rw [rep_if]; exact q)
theorem repIfI {p : Addr} {b : Bool} (h : H p = some (.lst [.int j])) (q : ∀ l, H l = none → Q (.ref l) (upd H l (.lst ((if b then [j] else []).map V.int)))) : rMulA (.ref p) (.int (if b then 1 else 0)) H Q :=
  repIf h (by
    have e : (if b then [V.int j] else []) = (if b then [j] else []).map V.int := by cases b <;> rfl
    rw [e]
    exact q)
theorem catI {p b : Addr} {xs ys : List Int} (h : H p = some (.lst (xs.map V.int))) (h2 : H b = some (.lst (ys.map V.int))) (hl : xs.length + ys.length ≤ sizeLine) (q : ∀ l, H l = none → Q (.ref l) (upd H l (.lst ((xs ++ ys).map V.int)))) : rAddA K (.ref p) (.ref b) H Q :=
  cat h h2 (by rw [List.length_map, List.length_map]; exact hl) (by rw [← List.map_append]; exact q)
/-! built-ins -/
theorem lenL {p : Addr} {xs : List V} (h : SqL K H p xs) (q : Q (.int xs.length) H) : rLenA K [.ref p] H Q := ⟨.ref p, xs.length, rfl, .inl ⟨xs, h, rfl⟩, q⟩
theorem lenT {p : Addr} {xs : List V} (h : SqT K H p xs) (q : Q (.int xs.length) H) : rLenA K [.ref p] H Q := ⟨.ref p, xs.length, rfl, .inr ⟨xs, h, rfl⟩, q⟩
theorem lenLI {p : Addr} {ns : List Int} (h : SqL K H p (ns.map V.int)) (q : Q (.int ns.length) H) : rLenA K [.ref p] H Q := lenL h (by rw [List.length_map]; exact q)
theorem lenTI {p : Addr} {ns : List Int} (h : SqT K H p (ns.map V.int)) (q : Q (.int ns.length) H) : rLenA K [.ref p] H Q := lenT h (by rw [List.length_map]; exact q)
theorem lenS {s : Str} (h : s.length ≤ sizeLine) (q : Q (.int s.length) H) : rLenA K [.str s] H Q := ⟨.str s, s.length, rfl, ⟨h, rfl⟩, q⟩
theorem intI (q : Q (.int i) H) : rInt1 [.int i] H Q := .inl ⟨i, rfl, q⟩
theorem intB {b : Bool} (q : Q (.int (if b then 1 else 0)) H) : rInt1 [.bl b] H Q := .inr ⟨b, rfl, q⟩
theorem abs' (q : Q (.int (if i < 0 then -i else i)) H) : rAbs [.int i] H Q := ⟨i, rfl, q⟩
theorem min2 (q : Q (.int (if j < i then j else i)) H) : rMin2 [.int i, .int j] H Q := ⟨i, j, rfl, q⟩
theorem max2 (q : Q (.int (if j > i then j else i)) H) : rMax2 [.int i, .int j] H Q := ⟨i, j, rfl, q⟩
theorem listL {p : Addr} {xs : List V} (h : SqL K H p xs) (q : ∀ l, H l = none → Q (.ref l) (upd H l (.lst xs))) : rListA K [.ref p] H Q := ⟨p, xs, rfl, .inl h, q⟩
theorem listT {p : Addr} {xs : List V} (h : SqT K H p xs) (q : ∀ l, H l = none → Q (.ref l) (upd H l (.lst xs))) : rListA K [.ref p] H Q := ⟨p, xs, rfl, .inr h, q⟩
theorem tupL {p : Addr} {xs : List V} (h : SqL K H p xs) (q : ∀ l, H l = none → Q (.ref l) (upd H l (.tup xs))) : rTupA K [.ref p] H Q := ⟨p, xs, rfl, .inl ⟨h, q⟩⟩
theorem tupT {p : Addr} {xs : List V} (h : SqT K H p xs) (q : Q (.ref p) H) : rTupA K [.ref p] H Q := ⟨p, xs, rfl, .inr ⟨h, q⟩⟩
theorem all' {p : Addr} {bs : List Bool} (h : SqL K H p (bs.map V.bl)) (q : Q (.bl (bs.all id)) H) : rAll K [.ref p] H Q := ⟨p, bs, rfl, h, q⟩
theorem any' {p : Addr} {bs : List Bool} (h : SqL K H p (bs.map V.bl)) (q : Q (.bl (bs.any id)) H) : rAny K [.ref p] H Q := ⟨p, bs, rfl, h, q⟩
theorem isiD {d : PyData} {cT : String} {b : Bool} (h : Dp K H x d) (hk : kitB (tyD d) cT = some b) (q : Q (.bl b) H) : rIsi K [x, .ty cT] H Q := ⟨x, .ty cT, _, .type cT, b, rfl, .ty cT, Dp.ty h, kit_ty hk, q⟩
theorem isi {T cT : String} {b : Bool} (ht : TyX K H x (.type T)) (hk : kitB T cT = some b) (q : Q (.bl b) H) : rIsi K [x, .ty cT] H Q := ⟨x, .ty cT, _, .type cT, b, rfl, .ty cT, ht, kit_ty hk, q⟩
/-! tests that are known -/
theorem iT {A B : Prop} (h : A) : if true = true then A else B := iteT h
theorem iF {A B : Prop} (h : B) : if false = true then A else B := iteF h
theorem iFO {b : Bool} {A B : Prop} (h : if b = true then A else B) : if (false || b) = true then A else B := by rw [Bool.false_or]; exact h
theorem iTO {b : Bool} {A B : Prop} (h : A) : if (true || b) = true then A else B := by rw [Bool.true_or]; exact iteT h
theorem iFA {b : Bool} {A B : Prop} (h : B) : if (false && b) = true then A else B := by rw [Bool.false_and]; exact iteF h
theorem iTA {b : Bool} {A B : Prop} (h : if b = true then A else B) : if (true && b) = true then A else B := by rw [Bool.true_and]; exact h
theorem iDT {p A B : Prop} [Decidable p] (hp : p) (h : A) : if decide p = true then A else B := by rw [decide_eq_true hp]; exact iteT h
theorem iDF {p A B : Prop} [Decidable p] (hp : ¬ p) (h : B) : if decide p = true then A else B := by rw [decide_eq_false hp]; exact iteF h
theorem iD {p A B : Prop} [Decidable p] (h1 : p → A) (h2 : ¬ p → B) : if decide p = true then A else B := by
  by_cases h : p
  · rw [decide_eq_true h]
    exact iteT (h1 h)
  · rw [decide_eq_false h]
    exact iteF (h2 h)
theorem iN {p A B : Prop} [Decidable p] (h1 : ¬ p → A) (h2 : p → B) : if (!decide p) = true then A else B := by
  by_cases h : p
  · rw [decide_eq_true h]
    exact iteF (h2 h)
  · rw [decide_eq_false h]
    exact iteT (h1 h)
theorem iB {b : Bool} {A B : Prop} (h1 : b = true → A) (h2 : b = false → B) : if b = true then A else B := by
  cases b with
  | true => exact iteT (h1 rfl)
  | false => exact iteF (h2 rfl)
end
section
variable {σ : L2.St} {H : Hp} {t u : TT} {QB : Bool → Hp → Prop} {b b' : Bool}
theorem andB (ht : ∀ QB : Bool → Hp → Prop, QB b H → t σ H QB) (hu : b = true → ∀ QB : Bool → Hp → Prop, QB b' H → u σ H QB) (q : QB (b && b') H) : tAnd t u σ H QB := by
  refine ht _ ?_
  cases b with
  | true => exact iteT (hu rfl _ q)
  | false => exact iteF q
theorem orB (ht : ∀ QB : Bool → Hp → Prop, QB b H → t σ H QB) (hu : b = false → ∀ QB : Bool → Hp → Prop, QB b' H → u σ H QB) (q : QB (b || b') H) : tOr t u σ H QB := by
  refine ht _ ?_
  cases b with
  | true => exact iteT q
  | false => exact iteF (hu rfl _ q)
theorem chainB {ta tb tc : TE} {r r' : R2} {x y z : V} {Q : VK} (ha : ∀ Q : VK, Q x H → ta σ H Q) (hb : ∀ Q : VK, Q y H → tb σ H Q) (hr : ∀ Q : VK, Q (.bl b) H → r x y H Q) (hc : b = true → ∀ Q : VK, Q z H → tc σ H Q) (hr' : b = true → ∀ Q : VK, Q (.bl b') H → r' y z H Q)
    (q : Q (.bl (b && b')) H) : tChain r r' ta tb tc σ H Q := by
  refine ha _ (hb _ (hr _ ⟨b, rfl, ?_⟩))
  cases b with
  | true => exact iteT (hc rfl _ (hr' rfl _ q))
  | false => exact iteF q
theorem iNot {b : Bool} {A B : Prop} (h : if b = true then B else A) : if (!b) = true then A else B := by
  cases b with
  | true => exact iteF (by rw [if_pos rfl] at h; exact h)
  | false => exact iteT (by rw [if_neg Bool.false_ne_true] at h; exact h)
theorem iAnd {p r A B : Prop} [Decidable p] [Decidable r] (h1 : p → r → A) (h2 : ¬ (p ∧ r) → B) : if (decide p && decide r) = true then A else B := by
  by_cases a : p
  · by_cases c : r
    · rw [decide_eq_true a, decide_eq_true c]
      exact iteT (h1 a c)
    · rw [decide_eq_false c, Bool.and_false]
      exact iteF (h2 fun z => c z.2)
  · rw [decide_eq_false a, Bool.false_and]
    exact iteF (h2 fun z => a z.1)
theorem iOr {p r A B : Prop} [Decidable p] [Decidable r] (h1 : p ∨ r → A) (h2 : ¬ p → ¬ r → B) : if (decide p || decide r) = true then A else B := by
  by_cases a : p
  · rw [decide_eq_true a, Bool.true_or]
    exact iteT (h1 (.inl a))
  · by_cases c : r
    · rw [decide_eq_true c, Bool.or_true]
      exact iteT (h1 (.inr c))
    · rw [decide_eq_false a, decide_eq_false c]
      exact iteF (h2 a c)
end
theorem cdiv {i j : Int} (h0 : 0 < j) (h1 : j < 1073741824) : CDivW i j := wide_div (b := 30) h0 (by omega) (by decide) (by decide)
theorem cpow {i j : Int} (h : decide (0 ≤ j ∧ j ≤ 1000000 ∧ i.natAbs < 2 ^ 64) = true) : CPow i j := by
  unfold CPow
  exact of_decide_eq_true h
theorem cmul1 {i j : Int} (h1 : -(2 ^ 64) < i) (h2 : i < 2 ^ 64) : CMulA i j := .inl (.inl ⟨h1, h2⟩)
theorem cmul2 {i j : Int} (h1 : -(2 ^ 64) < j) (h2 : j < 2 ^ 64) : CMulA i j := .inl (.inr ⟨h1, h2⟩)
theorem cdivL {i j : Int} (h : decide (0 < j ∧ j.natAbs.log2 < 9000) = true) : CDivW i j := by
  unfold CDivW
  exact of_decide_eq_true h
/-! ## statements; what follows written out -/
section
variable {K : PySem.W.Frag} {σ : L2.St} {H : Hp} {te : TE} {t u : TS} {nx bk ct : L2.St → Hp → Prop} {rt : VK} {g : TG} {n : Nat}
theorem seq (q : t ⟨u ⟨nx, rt, bk, ct⟩, rt, bk, ct⟩ σ H) : tSeq t u ⟨nx, rt, bk, ct⟩ σ H := q
/-- what follows, proved once for all ways -/
theorem joinS (P : L2.St → Hp → Prop) (key : ∀ σ H, P σ H → nx σ H) (q : ∀ N : L2.St → Hp → Prop, (∀ σ H, P σ H → N σ H) → t ⟨N, rt, bk, ct⟩ σ H) : t ⟨nx, rt, bk, ct⟩ σ H := q nx key
theorem next (q : nx σ H) : tNext ⟨nx, rt, bk, ct⟩ σ H := q
theorem asg (q : te σ H fun x H1 => g x σ H1 nx) : tAsg te g ⟨nx, rt, bk, ct⟩ σ H := q
theorem ret (q : te σ H rt) : tRet te ⟨nx, rt, bk, ct⟩ σ H := q
theorem retN (q : rt .non H) : tRetN ⟨nx, rt, bk, ct⟩ σ H := q
theorem drop (q : te σ H fun _ H1 => nx σ H1) : tDrop te ⟨nx, rt, bk, ct⟩ σ H := q
theorem ifS {c : TT} (q : c σ H fun b H1 => if b = true then t ⟨nx, rt, bk, ct⟩ σ H1 else u ⟨nx, rt, bk, ct⟩ σ H1) : tIfS c t u ⟨nx, rt, bk, ct⟩ σ H := q
theorem par {i j : Nat} {ta : TA} (q : ta σ H fun vs H1 => ∃ v w, vs = [v, w] ∧ nx ((σ.set i (some v)).set j (some w)) H1) : tPar i j ta ⟨nx, rt, bk, ct⟩ σ H := q
theorem par3 {i j l : Nat} {ta : TA} (q : ta σ H fun vs H1 => ∃ u v w, vs = [u, v, w] ∧ nx (((σ.set i (some u)).set j (some v)).set l (some w)) H1) : tPar3 i j l ta ⟨nx, rt, bk, ct⟩ σ H := q
theorem ex2 {a b : V} {F : V → V → Prop} (q : F a b) : ∃ v w, [a, b] = [v, w] ∧ F v w := ⟨a, b, rfl, q⟩
theorem ex3 {a b c : V} {F : V → V → V → Prop} (q : F a b c) : ∃ u v w, [a, b, c] = [u, v, w] ∧ F u v w := ⟨a, b, c, rfl, q⟩
theorem aug {ti : TIp} {v : V} (q : te σ H fun y H1 => ti v y H1 fun z H2 => nx (σ.set n (some z)) H2) (h : σ[n]? = some (some v) := by with_unfolding_all rfl) : tAug n te ti ⟨nx, rt, bk, ct⟩ σ H := ⟨v, h, q⟩
theorem ipA {f : Int → Int → Int} {i j : Int} {Q : VK} (q : Q (.int (f i j)) H) : ipI f (.int i) (.int j) H Q := ⟨i, j, rfl, rfl, q⟩
/-- the loop's own goal, behind what is walked -/
def Loop (J : It) (g : TG) (t : TS) (nx bk ct : L2.St → Hp → Prop) (rt : VK) (σ : L2.St) (H : Hp) : Prop :=
  ∃ At : Nat → Nat → L2.St → Hp → Prop, (∃ m, At 0 m σ H) ∧ ∀ i m σ H, At i m σ H →
    (J.stop i H ∧ nx σ H) ∨ (J.go i H ∧ ∃ N : L2.St → Hp → Prop, (∀ σ' H', N σ' H' → ∃ m', m' < m ∧ At (i + 1) m' σ' H') ∧ ∀ x H', J.yld i H x H' → g x σ H' fun σ2 H2 => t ⟨N, rt, nx, N⟩ σ2 H2)
theorem for' {wi : TI} (q : wi σ H fun J H1 => Loop J g t nx bk ct rt σ H1) : tFor wi g t ⟨nx, rt, bk, ct⟩ σ H := q
/-- a for over anything that is walked -/
theorem loop {J : It} {n : Nat} {G : Hp → Prop} {Y : Nat → Hp → V → Hp → Prop} (w : Walk J n G Y) (Pv : Nat → L2.St → Hp → Prop) (h0 : Pv 0 σ H) (hG : ∀ i σ H, i ≤ n → Pv i σ H → G H)
    (hs : ∀ i x σ H H', i < n → Pv i σ H → Y i H x H' → g x σ H' fun σ2 H2 => t ⟨Pv (i + 1), rt, nx, Pv (i + 1)⟩ σ2 H2) (hd : ∀ σ H, Pv n σ H → nx σ H) : Loop J g t nx bk ct rt σ H :=
  for_it (D := ⟨nx, rt, bk, ct⟩) w Pv h0 hG hs hd
theorem seqIter {tl : TE} {R : It → Hp → Prop} (q : tl σ H fun x H1 => (∃ a, x = .ref a ∧ (∃ xs, SqL K H1 a xs) ∧ R (Itl K a) H1) ∨ (∃ a, x = .ref a ∧ (∃ xs, SqT K H1 a xs) ∧ R (Itt K a) H1)) : iSeq K tl σ H R := q
theorem seqL {a : Addr} {xs : List V} {R : It → Hp → Prop} (h : SqL K H a xs) (q : R (Itl K a) H) : (∃ b, V.ref a = .ref b ∧ (∃ xs, SqL K H b xs) ∧ R (Itl K b) H) ∨ (∃ b, V.ref a = .ref b ∧ (∃ xs, SqT K H b xs) ∧ R (Itt K b) H) := .inl ⟨a, rfl, ⟨xs, h⟩, q⟩
theorem seqT {a : Addr} {xs : List V} {R : It → Hp → Prop} (h : SqT K H a xs) (q : R (Itt K a) H) : (∃ b, V.ref a = .ref b ∧ (∃ xs, SqL K H b xs) ∧ R (Itl K b) H) ∨ (∃ b, V.ref a = .ref b ∧ (∃ xs, SqT K H b xs) ∧ R (Itt K b) H) := .inr ⟨a, rfl, ⟨xs, h⟩, q⟩
/-- for x in a list that the body leaves as it is -/
theorem forL {a : Addr} {xs : List V} (Pv : Nat → L2.St → Hp → Prop) (h : SqL K H a xs) (h0 : Pv 0 σ H) (hG : ∀ i σ H, i ≤ xs.length → Pv i σ H → SqL K H a xs)
    (hs : ∀ i x σ H, xs[i]? = some x → i < xs.length → Pv i σ H → g x σ H fun σ2 H2 => t ⟨Pv (i + 1), rt, nx, Pv (i + 1)⟩ σ2 H2) (hd : ∀ σ H, Pv xs.length σ H → nx σ H) :
    (∃ b, V.ref a = .ref b ∧ (∃ xs, SqL K H b xs) ∧ Loop (Itl K b) g t nx bk ct rt σ H) ∨ (∃ b, V.ref a = .ref b ∧ (∃ xs, SqT K H b xs) ∧ Loop (Itt K b) g t nx bk ct rt σ H) :=
  seqL (R := fun J H1 => Loop J g t nx bk ct rt σ H1) h (loop walk_list Pv h0 hG (fun i x σ H H' hi p y => by
    obtain ⟨rfl, y⟩ := y
    exact hs i x σ _ y hi p) hd)
theorem forLI {a : Addr} {ns : List Int} (Pv : Nat → L2.St → Hp → Prop) (h : SqL K H a (ns.map V.int)) (h0 : Pv 0 σ H) (hG : ∀ i σ H, i ≤ ns.length → Pv i σ H → SqL K H a (ns.map V.int))
    (hs : ∀ i n σ H, ns[i]? = some n → n ∈ ns → i < ns.length → Pv i σ H → g (.int n) σ H fun σ2 H2 => t ⟨Pv (i + 1), rt, nx, Pv (i + 1)⟩ σ2 H2) (hd : ∀ σ H, Pv ns.length σ H → nx σ H) :
    (∃ b, V.ref a = .ref b ∧ (∃ xs, SqL K H b xs) ∧ Loop (Itl K b) g t nx bk ct rt σ H) ∨ (∃ b, V.ref a = .ref b ∧ (∃ xs, SqT K H b xs) ∧ Loop (Itt K b) g t nx bk ct rt σ H) :=
  forL (xs := ns.map V.int) Pv h h0 (fun i σ H hi => hG i σ H (by rw [List.length_map] at hi; exact hi)) (fun i x σ H hx hi => by
    rw [List.length_map] at hi
    rw [List.getElem?_map] at hx
    cases e : ns[i]? with
    | none =>
      rw [e] at hx
      cases hx
    | some n =>
      rw [e] at hx
      obtain rfl : V.int n = x := Option.some.inj hx
      exact hs i n σ H e (List.mem_of_getElem? e) hi) (by rw [List.length_map]; exact hd)
theorem forT {a : Addr} {xs : List V} (Pv : Nat → L2.St → Hp → Prop) (h : SqT K H a xs) (h0 : Pv 0 σ H) (hG : ∀ i σ H, i ≤ xs.length → Pv i σ H → SqT K H a xs)
    (hs : ∀ i x σ H, xs[i]? = some x → i < xs.length → Pv i σ H → g x σ H fun σ2 H2 => t ⟨Pv (i + 1), rt, nx, Pv (i + 1)⟩ σ2 H2) (hd : ∀ σ H, Pv xs.length σ H → nx σ H) :
    (∃ b, V.ref a = .ref b ∧ (∃ xs, SqL K H b xs) ∧ Loop (Itl K b) g t nx bk ct rt σ H) ∨ (∃ b, V.ref a = .ref b ∧ (∃ xs, SqT K H b xs) ∧ Loop (Itt K b) g t nx bk ct rt σ H) :=
  seqT (R := fun J H1 => Loop J g t nx bk ct rt σ H1) h (loop walk_tup Pv h0 hG (fun i x σ H H' hi p y => by
    obtain ⟨rfl, y⟩ := y
    exact hs i x σ _ y hi p) hd)
/-- for i, x in enumerate(a list) -/
theorem enum' {ta : TA} {R : It → Hp → Prop} (q : ta σ H fun vs H1 => ∃ a xs, vs = [.ref a] ∧ SqL K H1 a xs ∧ R (Ite K a) H1) : iEnum K ta σ H R := q
theorem forE {a : Addr} {xs : List V} (Pv : Nat → L2.St → Hp → Prop) (h : SqL K H a xs) (h0 : Pv 0 σ H) (hG : ∀ i σ H, i ≤ xs.length → Pv i σ H → SqL K H a xs)
    (hs : ∀ i x σ H, xs[i]? = some x → i < xs.length → Pv i σ H → ∀ T, H T = none → g (.ref T) σ (upd H T (.tup [.int (i : Nat), x])) fun σ2 H2 => t ⟨Pv (i + 1), rt, nx, Pv (i + 1)⟩ σ2 H2) (hd : ∀ σ H, Pv xs.length σ H → nx σ H) :
    ∃ b ys, [V.ref a] = [.ref b] ∧ SqL K H b ys ∧ Loop (Ite K b) g t nx bk ct rt σ H :=
  ⟨a, xs, rfl, h, loop walk_enum Pv h0 hG (fun i x σ H H' hi p y => by
    obtain ⟨T, x1, y1, rfl, hT, rfl, e1, e2⟩ := y
    obtain rfl := Option.some.inj e1
    exact hs i y1 σ H e2 hi p T hT) hd⟩
theorem gPair {i j : Nat} {p : Addr} {x y : V} {QS : L2.St → Hp → Prop} (h : H p = some (.tup [x, y])) (q : QS ((σ.set i (some x)).set j (some y)) H) : L2.gTup K 2 (L2.gCons (L2.gName i) (L2.gCons (L2.gName j) L2.gNil)) (.ref p) σ H QS :=
  ⟨p, [x, y], rfl, SqT.of h, rfl, x, [y], rfl, y, [], rfl, rfl, q⟩
theorem gPairT {i j : Nat} {p : Addr} {x y : V} {QS : L2.St → Hp → Prop} (h : SqT K H p [x, y]) (q : QS ((σ.set i (some x)).set j (some y)) H) : L2.gTup K 2 (L2.gCons (L2.gName i) (L2.gCons (L2.gName j) L2.gNil)) (.ref p) σ H QS :=
  ⟨p, [x, y], rfl, h, rfl, x, [y], rfl, y, [], rfl, rfl, q⟩
theorem rng1 {ta : TA} {R : It → Hp → Prop} (q : ta σ H fun vs H1 => ∃ j : Int, vs = [.int j] ∧ -(2 ^ 62) ≤ j ∧ j < 2 ^ 62 ∧ R (Itr 0 j.toNat) H1) : iRng1 ta σ H R := q
theorem rng1v {j : Int} {F : Int → Prop} (h : -(2 ^ 62) ≤ j) (h2 : j < 2 ^ 62) (q : F j) : ∃ k : Int, [V.int j] = [.int k] ∧ -(2 ^ 62) ≤ k ∧ k < 2 ^ 62 ∧ F k := ⟨j, rfl, h, h2, q⟩
theorem rng2v {i j : Int} {F : Int → Int → Prop} (h : -(2 ^ 62) ≤ i ∧ i < 2 ^ 62 ∧ -(2 ^ 62) ≤ j ∧ j < 2 ^ 62) (q : F i j) : ∃ a b : Int, [V.int i, .int j] = [.int a, .int b] ∧ (-(2 ^ 62) ≤ a ∧ a < 2 ^ 62 ∧ -(2 ^ 62) ≤ b ∧ b < 2 ^ 62) ∧ F a b := ⟨i, j, rfl, h, q⟩
theorem rng2 {ta : TA} {R : It → Hp → Prop} (q : ta σ H fun vs H1 => ∃ i j : Int, vs = [.int i, .int j] ∧ (-(2 ^ 62) ≤ i ∧ i < 2 ^ 62 ∧ -(2 ^ 62) ≤ j ∧ j < 2 ^ 62) ∧ R (Itr i (j - i).toNat) H1) : iRng2 ta σ H R := q
/-- for i in range(n) -/
theorem forR {lo : Int} {m : Nat} (Pv : Nat → L2.St → Hp → Prop) (h0 : Pv 0 σ H)
    (hs : ∀ i σ H, i < m → Pv i σ H → g (.int (lo + i)) σ H fun σ2 H2 => t ⟨Pv (i + 1), rt, nx, Pv (i + 1)⟩ σ2 H2) (hd : ∀ σ H, Pv m σ H → nx σ H) : Loop (Itr lo m) g t nx bk ct rt σ H :=
  loop walk_range Pv h0 (fun _ _ _ _ _ => True.intro) (fun i x σ H H' hi p y => by
    obtain ⟨rfl, rfl⟩ := y
    exact hs i σ _ hi p) hd
end
/-! ## list comprehensions -/
section
variable {K : PySem.W.Frag} {σ : L2.St} {H : Hp} {Q : VK} {g : TG} {tt : TT} {te : TE} {vs : List Nat}
def LcLoop (J : It) (g : TG) (tt : TT) (te : TE) (vs : List Nat) (σ : L2.St) (D : Addr) (H : Hp) (Q : VK) : Prop :=
  ∃ At : Nat → Nat → Hp → Prop, (∃ m, At 0 m (upd H D (.lst []))) ∧ ∀ i m H, At i m H →
    (J.stop i H ∧ Q (.ref D) H) ∨ (J.go i H ∧ ∃ On : Hp → Prop, (∀ H', On H' → ∃ m', m' < m ∧ At (i + 1) m' H') ∧ ∀ x H', J.yld i H x H' → g x (wipe σ vs) H' fun σ2 H2 => wipe σ2 vs = wipe σ vs ∧ tt σ2 H2 fun b H3 =>
      if b = true then te σ2 H3 fun y H4 => ∃ got, H4 D = some (.lst got) ∧ got.length < sizeLine ∧ On (upd H4 D (.lst (got ++ [y]))) else On H3)
theorem lc {wi : TI} (q : wi σ H fun J H1 => ∀ D, H1 D = none → LcLoop J g tt te vs σ D H1 Q) : tLc wi g tt te vs σ H Q := q
theorem lcI {J : It} {n : Nat} {G : Hp → Prop} {Y : Nat → Hp → V → Hp → Prop} {D : Addr} (w : Walk J n G Y) (Pv : Nat → Hp → Prop) (h0 : Pv 0 (upd H D (.lst []))) (hG : ∀ i H, i ≤ n → Pv i H → G H)
    (each : ∀ i x H H', i < n → Pv i H → Y i H x H' → g x (wipe σ vs) H' fun σ2 H2 => wipe σ2 vs = wipe σ vs ∧ tt σ2 H2 fun b H3 =>
      if b = true then te σ2 H3 fun y H4 => ∃ got, H4 D = some (.lst got) ∧ got.length < sizeLine ∧ Pv (i + 1) (upd H4 D (.lst (got ++ [y]))) else Pv (i + 1) H3) (hd : ∀ H, Pv n H → Q (.ref D) H) : LcLoop J g tt te vs σ D H Q :=
  lc_it (Qd := Q (.ref D)) w Pv h0 hG each hd
/-- over a list or tuple, flat values of a test and an element that make nothing: a new list (xs.filter p).map f -/
theorem lcFM {a : Addr} {xs : List V} {j : Nat} (p : V → Bool) (f : V → V) (h : SqL K H a xs) (hl : xs.length < sizeLine) (hw : ∀ x, wipe ((wipe σ [j]).set j (some x)) [j] = wipe σ [j])
    (ht : ∀ x H', x ∈ xs → Same H H' → ∀ QB : Bool → Hp → Prop, QB (p x) H' → tt ((wipe σ [j]).set j (some x)) H' QB)
    (he : ∀ x H', x ∈ xs → p x = true → Same H H' → ∀ Q : VK, Q (f x) H' → te ((wipe σ [j]).set j (some x)) H' Q)
    (q : ∀ D H', H D = none → Same H H' → H' D = some (.lst ((xs.filter p).map f)) → Q (.ref D) H') :
    (∃ b, V.ref a = .ref b ∧ (∃ xs, SqL K H b xs) ∧ ∀ D, H D = none → LcLoop (Itl K b) (L2.gName j) tt te [j] σ D H Q) ∨ (∃ b, V.ref a = .ref b ∧ (∃ xs, SqT K H b xs) ∧ ∀ D, H D = none → LcLoop (Itt K b) (L2.gName j) tt te [j] σ D H Q) := by
  refine .inl ⟨a, rfl, ⟨xs, h⟩, fun D hD => ?_⟩
  refine lcI walk_list (fun i H' => Same H H' ∧ H' D = some (.lst (((xs.take i).filter p).map f))) ⟨same_upd hD, upd_same⟩ (fun i H' _ z => SqL.mono z.1 h) ?_ (fun H' z => q D H' hD z.1 (by
    have e := z.2
    rw [List.take_of_length_le (Nat.le_refl _)] at e
    exact e))
  rintro i x H1 H' hi ⟨z1, z2⟩ ⟨rfl, hx⟩
  have hm : x ∈ xs := List.mem_of_getElem? hx
  refine ⟨hw x, ht x _ hm z1 _ ?_⟩
  have et : xs.take (i + 1) = xs.take i ++ [x] := by rw [List.take_add_one, hx]; rfl
  cases hp : p x with
  | true =>
    refine iteT (he x _ hm hp z1 _ ⟨_, z2, ?_, ?_, ?_⟩)
    · rw [List.length_map]
      refine Nat.lt_of_le_of_lt (List.length_filter_le _ _) (Nat.lt_of_le_of_lt (List.length_take_le _ _) ?_)
      exact Nat.lt_of_le_of_lt (Nat.le_of_lt hi) hl
    · intro b o e
      rw [upd_ne (ne_of_none e hD)]
      exact z1 _ _ e
    · rw [upd_same, et, List.filter_append, List.map_append]
      simp only [List.filter_cons, List.filter_nil, hp, if_true, List.map_cons, List.map_nil]
  | false =>
    refine iteF ⟨z1, ?_⟩
    rw [z2, et, List.filter_append, List.map_append]
    simp only [List.filter_cons, List.filter_nil, hp, Bool.false_eq_true, if_false, List.map_nil, List.append_nil]
def pI (p : Int → Bool) : V → Bool
  | .int n => p n
  | _ => false
def fI (f : Int → Int) : V → V
  | .int n => .int (f n)
  | v => v
theorem filt_ints (p : Int → Bool) (f : Int → Int) : ∀ ns : List Int, ((ns.map V.int).filter (pI p)).map (fI f) = ((ns.filter p).map f).map V.int
  | [] => rfl
  | n :: ns => by
    rw [List.map_cons, List.filter_cons, List.filter_cons]
    show (if p n = true then _ else _ : List V).map (fI f) = _
    cases h : p n with
    | true =>
      rw [if_pos rfl, if_pos rfl, List.map_cons, List.map_cons, List.map_cons, filt_ints p f ns]
      rfl
    | false =>
      rw [if_neg Bool.false_ne_true, if_neg Bool.false_ne_true, filt_ints p f ns]
/-- .. of ints -/
theorem lcFMI {a : Addr} {ns : List Int} {j : Nat} (p : Int → Bool) (f : Int → Int) (h : SqL K H a (ns.map V.int)) (hl : ns.length < sizeLine) (hw : ∀ x, wipe ((wipe σ [j]).set j (some x)) [j] = wipe σ [j])
    (ht : ∀ x H', x ∈ ns → Same H H' → ∀ QB : Bool → Hp → Prop, QB (p x) H' → tt ((wipe σ [j]).set j (some (.int x))) H' QB)
    (he : ∀ x H', x ∈ ns → p x = true → Same H H' → ∀ Q : VK, Q (.int (f x)) H' → te ((wipe σ [j]).set j (some (.int x))) H' Q)
    (q : ∀ D H', H D = none → Same H H' → H' D = some (.lst (((ns.filter p).map f).map V.int)) → Q (.ref D) H') :
    (∃ b, V.ref a = .ref b ∧ (∃ xs, SqL K H b xs) ∧ ∀ D, H D = none → LcLoop (Itl K b) (L2.gName j) tt te [j] σ D H Q) ∨ (∃ b, V.ref a = .ref b ∧ (∃ xs, SqT K H b xs) ∧ ∀ D, H D = none → LcLoop (Itt K b) (L2.gName j) tt te [j] σ D H Q) := by
  refine lcFM (pI p) (fI f) h (by rw [List.length_map]; exact hl) hw (fun x H' hx e QB qb => ?_) (fun x H' hx hp e Q' qq => ?_) (fun D H' hD e g => q D H' hD e (by rw [← filt_ints]; exact g))
  · obtain ⟨n, hn, rfl⟩ := List.mem_map.mp hx
    exact ht n H' hn e QB qb
  · obtain ⟨n, hn, rfl⟩ := List.mem_map.mp hx
    exact he n H' hn hp e Q' qq
theorem zip' {ta : TA} {R : It → Hp → Prop} (q : ta σ H fun vs H1 => ∃ a b xs ys, vs = [.ref a, .ref b] ∧ ((SqL K H1 a xs ∧ SqL K H1 b ys ∧ R (Itz K a b) H1) ∨ (SqT K H1 a xs ∧ SqT K H1 b ys ∧ R (RZ.ItzT K a b) H1))) : RZ.iZipA K ta σ H R := q
theorem walk_zipT {a b : Addr} {xs ys : List V} {n : Nat} (hn : n = min xs.length ys.length) : Walk (RZ.ItzT K a b) n (fun H => SqT K H a xs ∧ SqT K H b ys) (YPair (fun i => xs[i]?) (fun i => ys[i]?)) where
  goes i _ hi both := by
    have left : i < xs.length := by omega
    have right : i < ys.length := by omega
    exact ⟨_, _, xs[i], ys[i], both.1, both.2, List.getElem?_eq_getElem left, List.getElem?_eq_getElem right⟩
  stops _ both := ⟨_, _, both.1, both.2, by omega⟩
  yields i _ _ _ _ both y := by
    obtain ⟨T, x, z, e1, e2, e3, at1, at2⟩ := y
    exact ⟨T, x, z, e1, e2, e3, at1 _ both.1, at2 _ both.2⟩
/-- over pairs, flat values: a new list of them -/
theorem lcPairs {J : It} {n : Nat} {G : Hp → Prop} {X Y : Nat → Option V} {j1 j2 : Nat} (w : Walk J n G (YPair X Y)) (f : Nat → V) (hn : n < sizeLine) (hG : ∀ H', Same H H' → G H')
    (hw : ∀ x y, wipe (((wipe σ [j1, j2]).set j1 (some x)).set j2 (some y)) [j1, j2] = wipe σ [j1, j2])
    (he : ∀ i x y H', i < n → Same H H' → X i = some x → Y i = some y → ∀ Q : VK, (∀ H'', Same H' H'' → Q (f i) H'') → te (((wipe σ [j1, j2]).set j1 (some x)).set j2 (some y)) H' Q)
    (q : ∀ D H', H D = none → Same H H' → H' D = some (.lst ((List.range n).map f)) → Q (.ref D) H') : ∀ D, H D = none → LcLoop J (L2.gTup K 2 (L2.gCons (L2.gName j1) (L2.gCons (L2.gName j2) L2.gNil))) tYes te [j1, j2] σ D H Q := by
  intro D hD
  refine lcI w (fun i H' => Same H H' ∧ H' D = some (.lst ((List.range i).map f))) ⟨same_upd hD, upd_same⟩ (fun i H' _ z => hG H' z.1) ?_ (fun H' z => q D H' hD z.1 z.2)
  rintro i v H1 H' hi ⟨z1, z2⟩ ⟨T, x, y, rfl, hT, rfl, hx, hy⟩
  refine ⟨T, [x, y], rfl, SqT.of upd_same, rfl, x, [y], rfl, y, [], rfl, rfl, hw x y, ?_⟩
  unfold tYes
  refine iteT ?_
  refine he i x y _ hi (z1.trans (same_upd hT)) hx hy _ fun H'' e2 => ?_
  have hD2 : H'' D = some (.lst ((List.range i).map f)) := e2 _ _ (upd_get hT z2)
  refine ⟨_, hD2, ?_, ?_, ?_⟩
  · rw [List.length_map, List.length_range]
    exact Nat.lt_trans hi hn
  · intro b o e
    rw [upd_ne (ne_of_none e hD)]
    exact e2 _ _ (upd_get hT (z1 _ _ e))
  · rw [upd_same, List.range_succ, List.map_append]
    rfl
theorem strIter {tl : TE} {R : It → Hp → Prop} (q : tl σ H fun v H1 => ∃ x, v = .str x ∧ R (Its x) H1) : iStr tl σ H R := q
/-- over a text, flat values: a new list of them -/
theorem lcS {z : Str} {j : Nat} (f : Nat → V) (hl : z.cps.size < sizeLine) (hw : ∀ x, wipe ((wipe σ [j]).set j (some x)) [j] = wipe σ [j])
    (he : ∀ c H', c ∈ z.cps.toList → Same H H' → ∀ Q : VK, Q (f c) H' → te ((wipe σ [j]).set j (some (.str ⟨#[c]⟩))) H' Q)
    (q : ∀ D H', H D = none → Same H H' → H' D = some (.lst (z.cps.toList.map f)) → Q (.ref D) H') :
    ∃ x, V.str z = .str x ∧ ∀ D, H D = none → LcLoop (Its x) (L2.gName j) tYes te [j] σ D H Q := by
  refine ⟨z, rfl, fun D hD => ?_⟩
  refine lcI walk_str (fun i H' => Same H H' ∧ H' D = some (.lst ((z.cps.toList.take i).map f))) ⟨same_upd hD, upd_same⟩ (fun i H' _ _ => True.intro) ?_ (fun H' z' => q D H' hD z'.1 (by
    have e := z'.2
    rw [List.take_of_length_le (Nat.le_of_eq Array.length_toList)] at e
    exact e))
  rintro i x H1 H' hi ⟨z1, z2⟩ ⟨rfl, c, hc, rfl⟩
  rw [← Array.getElem?_toList] at hc
  refine ⟨hw _, ?_⟩
  unfold tYes
  refine iteT (he c _ (List.mem_of_getElem? hc) z1 _ ⟨_, z2, ?_, ?_, ?_⟩)
  · rw [List.length_map]
    exact Nat.lt_of_le_of_lt (List.length_take_le _ _) (Nat.lt_trans hi hl)
  · intro b o e
    rw [upd_ne (ne_of_none e hD)]
    exact z1 _ _ e
  · rw [upd_same, List.take_add_one, hc, List.map_append]
    rfl
end
section
variable {K : PySem.W.Frag} {σ : L2.St} {H : Hp} {Q : VK} {QP : List (V × V) → Hp → Prop} {tk tv : TE} {trs : List (TE × TE)}
theorem disp (q : ∀ p, H p = none → tPairs trs σ (upd H p (.dK [])) fun ps H2 => H2 p = some (.dK []) ∧ ∃ kvs : List (Key × V), ps = kvs.map (fun kv => (kV kv.1, kv.2)) ∧ kvs.length ≤ 15 ∧ Q (.ref p) (upd H2 p (.dK (mergeK [] kvs)))) : tDisp trs σ H Q := q
theorem pairsC (q : tk σ H fun x H1 => tv σ H1 fun y H2 => tPairs trs σ H2 fun ps H3 => QP ((x, y) :: ps) H3) : tPairs ((tk, tv) :: trs) σ H QP := q
theorem pairsN (q : QP [] H) : tPairs [] σ H QP := q
theorem dget (q : tk σ H fun x H1 => tv σ H1 fun y H2 => ∃ a v, x = .ref a ∧ DGet H2 a y (some v) ∧ Q v H2) : tDGet tk tv σ H Q := q
theorem dgetV {a : Addr} {kvs : List (Key × V)} {k : Key} {y v : V} (h : H a = some (.dK kvs)) (hy : y = kV k) (hv : valV kvs k = some v) (q : Q v H) : ∃ b v, V.ref a = .ref b ∧ DGet H b y (some v) ∧ Q v H :=
  ⟨a, v, rfl, .inl ⟨kvs, k, .inl h, hy, hv.symm⟩, q⟩
theorem bm {T : String} {r : V → List V → Hp → VK → Prop} {t : TA} (q : tk σ H fun x H1 => tyV K T x H1 ∧ t σ H1 fun xs H2 => r x xs H2 Q) : tBM K T r tk t σ H Q := q
theorem tyL {p : Addr} {xs : List V} {A : Prop} (h : H p = some (.lst xs)) (q : A) : tyV K "list" (.ref p) H ∧ A := ⟨.inl ⟨rfl, xs, SqL.of h⟩, q⟩
theorem append {p : Addr} {xs : List V} {y : V} (h : H p = some (.lst xs)) (hl : xs.length < sizeLine) (q : Q .non (upd H p (.lst (xs ++ [y])))) : rAppend (.ref p) [y] H Q := ⟨p, xs, y, rfl, rfl, h, hl, q⟩
theorem appendI {p : Addr} {ns : List Int} {n : Int} (h : H p = some (.lst (ns.map V.int))) (hl : ns.length < sizeLine) (q : Q .non (upd H p (.lst ((ns ++ [n]).map V.int)))) : rAppend (.ref p) [.int n] H Q :=
  append h (by rw [List.length_map]; exact hl) (by rw [← List.map_singleton (f := V.int), ← List.map_append]; exact q)
theorem map_erase {α β : Type} (f : α → β) : ∀ (xs : List α) (k : Nat), (xs.map f).eraseIdx k = (xs.eraseIdx k).map f
  | [], _ => rfl
  | _ :: _, 0 => rfl
  | x :: xs, k + 1 => congrArg (f x :: ·) (map_erase f xs k)
theorem popAtI {p : Addr} {ns : List Int} {i : Int} (h : H p = some (.lst (ns.map V.int))) (h0 : 0 ≤ i) (h1 : i < ns.length) (hb : ns.length < 2 ^ 62) (q : ∀ m, ns[i.toNat]? = some m → Q (.int m) (upd H p (.lst ((ns.eraseIdx i.toNat).map V.int)))) : rPopAt (.ref p) [.int i] H Q := by
  have hl : i.toNat < ns.length := by omega
  have e : ns[i.toNat]? = some ns[i.toNat] := List.getElem?_eq_getElem hl
  refine ⟨p, _, i, i.toNat, .int ns[i.toNat], rfl, rfl, h, by omega, by omega, ?_, by rw [List.getElem?_map, e]; rfl, ?_⟩
  · exact (ixN_seq (by rw [List.length_map]; exact ixN_pos h0 h1)).1
  · have z := q _ e
    rw [map_erase]
    exact z
theorem revL {p : Addr} {ns : List Int} (h : SqL K H p (ns.map V.int)) (q : ∀ l, H l = none → Q (.ref l) (upd H l (.lst (ns.reverse.map V.int)))) : ∃ a xs, V.ref p = .ref a ∧ SqL K H a xs ∧ ∀ l, H l = none → Q (.ref l) (upd H l (.lst xs.reverse)) :=
  ⟨p, _, rfl, h, by rw [← List.map_reverse]; exact q⟩
theorem rev (q : tk σ H fun x H1 => ∃ a xs, x = .ref a ∧ SqL K H1 a xs ∧ ∀ p, H1 p = none → Q (.ref p) (upd H1 p (.lst xs.reverse))) : tRevL K tk σ H Q := q
theorem sumI {p : Addr} {ns : List Int} (h : SqL K H p (ns.map V.int)) (q : Q (.int ns.sum) H) : rSum K [.ref p] H Q := ⟨p, ns, rfl, h, q⟩
theorem ixN_last {n : Nat} (h : 0 < n) : ixN n (-1) = some (n - 1) := by
  unfold ixN
  rw [if_neg (by decide), if_pos (by omega)]
  congr 1
  omega
theorem ixLast {p : Addr} {ns : List Int} (h : SqL K H p (ns.map V.int)) (hne : 0 < ns.length) (q : ∀ m, ns[ns.length - 1]? = some m → Q (.int m) H) : rIx K (.ref p) (.int (-1)) H Q := by
  have hl : ns.length - 1 < ns.length := by omega
  have e : ns[ns.length - 1]? = some ns[ns.length - 1] := List.getElem?_eq_getElem hl
  refine ixL h (v := .int ns[ns.length - 1]) ?_ (q _ e)
  unfold atI
  rw [List.length_map, ixN_last hne]
  show (ns.map V.int)[ns.length - 1]? = _
  rw [List.getElem?_map, e]
  rfl
theorem setLastI {p : Addr} {ns : List Int} {n : Int} {QS : Hp → Prop} (h : H p = some (.lst (ns.map V.int))) (hne : 0 < ns.length) (q : QS (upd H p (.lst ((ns.set (ns.length - 1) n).map V.int)))) : rSetL (.ref p) (.int (-1)) (.int n) H QS :=
  setL (k := ns.length - 1) h (by rw [List.length_map]; exact ixN_last hne) (by rw [← List.map_set]; exact q)
def rgI (a b : Int) : List Int := (List.range (b - a).toNat).map fun i => a + (i : Nat)
theorem rgI_V (a b : Int) : rgV a b = (rgI a b).map V.int := by
  unfold rgV rgI
  rw [List.map_map]
  rfl
theorem rgI_length (a b : Int) : (rgI a b).length = (b - a).toNat := by
  unfold rgI
  rw [List.length_map, List.length_range]
theorem lstRg {te : L2.St → Hp → (Int → Int → Hp → Prop) → Prop} (q : te σ H fun a b H1 => RgOk a b ∧ ∀ l, H1 l = none → Q (.ref l) (upd H1 l (.lst ((rgI a b).map V.int)))) : tLstRg te σ H Q := by
  have e : (fun (a b : Int) (H1 : Hp) => RgOk a b ∧ ∀ l, H1 l = none → Q (.ref l) (upd H1 l (.lst ((rgI a b).map V.int)))) = fun a b H1 => RgOk a b ∧ ∀ l, H1 l = none → Q (.ref l) (upd H1 l (.lst (rgV a b))) := by
    funext a b H1
    rw [rgI_V]
  rw [e] at q
  exact q
theorem rg1 {ta : TE} {QR : Int → Int → Hp → Prop} (q : ta σ H fun x H1 => ∃ n, x = .int n ∧ QR 0 n H1) : tRg1 ta σ H QR := q
theorem rg2 {ta tb : TE} {QR : Int → Int → Hp → Prop} (q : ta σ H fun x H1 => tb σ H1 fun y H2 => ∃ i j, x = .int i ∧ y = .int j ∧ QR i j H2) : tRg2 ta tb σ H QR := q
theorem exII {a b : Int} {F : Int → Int → Prop} (q : F a b) : ∃ i j, V.int a = .int i ∧ V.int b = .int j ∧ F i j := ⟨a, b, rfl, rfl, q⟩
theorem inS {a b : Str} (q : Q (.bl (!(Builtin.Str.occurrences b a 0 b.length 1).isEmpty)) H) : rInSA (.str a) (.str b) H Q := ⟨a, b, rfl, rfl, q⟩
end
end Rl.R
namespace Rl
open PySem PySem.Spec PyProof.Rows L2
/-! ## a set of ints, by a comprehension -/
/-- what the turns need: the set stands at D -/
def ScGo (w : World) (J : It) (g : TG) (tt : TT) (te : TE) (vs : List Nat) (σ : L2.St) (D : Addr) (H : Hp) (Q : VK) : Prop :=
  ∃ At : Nat → Nat → Hp → Prop, (∃ m, At 0 m (upd H D (SetO w D (fun _ => false) 0))) ∧ ∀ i m H, At i m H →
    (J.stop i H ∧ Q (.ref D) H) ∨ (J.go i H ∧ ∃ On : Hp → Prop, (∀ H', On H' → ∃ m', m' < m ∧ At (i + 1) m' H') ∧ ∀ x H', J.yld i H x H' → g x (wipe σ vs) H' fun σ2 H2 => wipe σ2 vs = wipe σ vs ∧ tt σ2 H2 fun b H3 =>
      if b = true then te σ2 H3 fun y H4 => ∃ (c : Int) (S : Int → Bool) (n : Nat), y = .int c ∧ H4 D = some (SetO w D S n) ∧ n + 1 < scanBound ∧ On (upd H4 D (SetO w D (fun j => S j || decide (j = c)) (if S c = true then n else n + 1))) else On H3)
def tScI (w : World) (wi : TI) (g : TG) (tt : TT) (te : TE) (vs : List Nat) : TE := fun σ H Q => wi σ H fun J H1 => ∀ D, H1 D = none → ScGo w J g tt te vs σ D H1 Q
section
variable {X : Cx}
theorem pe_scI {elt tg src : Expr} {cs : List Expr} {bsc : Scope} {own : List (PySem.Str × Nat)} {cp : Pos} {wi : TI} {g : TG} {tt : TT} {te : TE} (calm : X.calm = true) (nd : X.N.Nodup) (walk : PI X tg src wi) (blk : BlkOk X.N X.env.scope bsc own)
    (dg : ∀ (s : Shared) (H : Hp) (C : Addr) (cl : List (PySem.Str × Addr)) (fp : List Addr), PG (X.blk s H bsc (compEnvC bsc cl C X.env) fp) tg g)
    (dt : ∀ (s : Shared) (H : Hp) (C : Addr) (cl : List (PySem.Str × Addr)) (fp : List Addr), PTs (X.blk s H bsc (compEnvC bsc cl C X.env) fp) cs tt)
    (de : ∀ (s : Shared) (H : Hp) (C : Addr) (cl : List (PySem.Str × Addr)) (fp : List Addr), PE (X.blk s H bsc (compEnvC bsc cl C X.env) fp) elt te) (fold : ∀ x, foldedSetIterable src X.env x = pure x := by intro _; rfl) :
    PE X (.SetComp elt [⟨tg, src, cs, 0⟩] bsc cp) (tScI X.w wi g tt te (own.map (·.2))) := by
  refine ⟨fun pins s0 σ H Q I0 go => ?_⟩
  rw [PpSet.eval_SetComp]
  have cellsHere : ∀ y ∈ bsc.names, y.2 = .free → ∃ c, X.env.cells.lookup y.1 = some c := by
    intro y hy e
    exact (blk.free y hy e).elim (fun k => I0.ok.has _ (.inl k)) fun k => I0.ok.has _ (.inr k)
  refine wpAny_comprehension_free (use := none) rfl fold (closure_ok cellsHere) blk.kind (fun y hy e => by rw [blk.uniq y hy, e]) ?_
  refine thn (walk.run pins s0 σ H _ I0 go) fun xv sA inner => thn inner fun itv sB res => ?_
  obtain ⟨it, fp, tn, J, HB, e, IB, T, stB, okB, q⟩ := res
  subst e
  refine PpSet.newSet_ok (newEnv_comp ?_)
  -- the set is the newest thing
  obtain ⟨D, hD⟩ : ∃ D, D = sB.heap.objs.size := ⟨_, rfl⟩
  have fresh : HB D = none := IB.hok.fresh (Nat.le_of_eq hD.symm)
  obtain ⟨W, ⟨m0, w0⟩, turn⟩ := q D fresh
  rw [← hD]
  generalize hsC : ({ sB with heap := sB.heap.push { cls := .type "set", dict := none, data := .set #[] 0 (.fresh 0 0 (!X.w.params.followText "set-order")) } } : Shared) = sC
  have heapC : sC.heap = sB.heap.push { cls := .type "set", dict := none, data := .set #[] 0 (.fresh 0 0 (!X.w.params.followText "set-order")) } := by rw [← hsC]
  have IC : Inv X pins σ (upd HB D (SetO X.w D (fun _ => false) 0)) sC := by
    rw [← hsC]
    refine IB.laid (t' := sB.toks) (fun b o e => Heap.get?_push_of_some _ e) (Nat.le_of_eq hD.symm) ?_
    rw [hD]
    exact setO_new (setR_fresh X.w)
  have below : ∀ b ∈ fp, b < sB.heap.objs.size := by
    intro b hb
    obtain ⟨o, e, _⟩ := T.obj _ _ stB b hb
    exact Heap.lt_size e
  have okC : ∀ b ∈ fp, FpOk X pins (upd HB D (SetO X.w D (fun _ => false) 0)) b ∧ b < sC.heap.objs.size := by
    intro b hb
    have lt := below b hb
    have ne : b ≠ D := by
      rw [hD]
      exact Nat.ne_of_lt lt
    refine ⟨⟨(upd_ne ne).trans (okB b hb).1, (okB b hb).2⟩, ?_⟩
    rw [heapC, Heap.size_push]
    exact Nat.lt_succ_of_lt lt
  have stC : tn 0 sC.heap := T.keep _ _ _ stB fun b _ o e => by
    rw [heapC]
    exact Heap.get?_push_of_some _ e
  obtain ⟨HC, hHC⟩ : ∃ HC, HC = upd HB D (SetO X.w D (fun _ => false) 0) := ⟨_, rfl⟩
  rw [← hHC] at IC okC w0
  have inner := block_start IC blk nd okC
  have qg := dg sC HC sC.heap.objs.size (cellsFrom (sC.heap.objs.size + 1) bsc.names (cloFrom X.env.cells bsc.names [])) fp
  have qt := dt sC HC sC.heap.objs.size (cellsFrom (sC.heap.objs.size + 1) bsc.names (cloFrom X.env.cells bsc.names [])) fp
  have qe := de sC HC sC.heap.objs.size (cellsFrom (sC.heap.objs.size + 1) bsc.names (cloFrom X.env.cells bsc.names [])) fp
  show codeAny _ _ (.compStart (.SetComp elt [⟨tg, src, cs, 0⟩] bsc cp) 0 (.ref it) (.ref D) (compEnvC bsc (cellsFrom (sC.heap.objs.size + 1) bsc.names (cloFrom X.env.cells bsc.names [])) sC.heap.objs.size X.env)) (compPost (model X.prog X.w) X.A X.xe none _ (.ref D) sC.heap.objs.size) { sC with heap := pushCells (sC.heap.push { cls := .type "dict", data := .dict #[] }) bsc.names }
  have fpC : ∀ b ∈ fp, HC b = none := fun b hb => (okC b hb).1.1
  generalize hce : compEnvC bsc (cellsFrom (sC.heap.objs.size + 1) bsc.names (cloFrom X.env.cells bsc.names [])) sC.heap.objs.size X.env = ce at inner qg qt qe ⊢
  have locC : ce.locals = sC.heap.objs.size := by
    subst hce
    rfl
  generalize hsE : ({ sC with heap := pushCells (sC.heap.push { cls := .type "dict", data := .dict #[] }) bsc.names } : Shared) = sE at inner ⊢
  have stE : tn 0 sE.heap := T.keep _ _ _ stC fun b _ o e => by
    rw [← hsE]
    exact pushCells_keeps _ _ _ _ (Heap.get?_push_of_some _ e)
  have okIn : ∀ {σ' : L2.St} {H' : Hp} {s' : Shared}, Inv (X.blk sC HC bsc ce fp) [] σ' H' s' → (∀ b ∈ fp, H' b = none) → ∀ b ∈ fp, FpOk (X.blk sC HC bsc ce fp) [] H' b := by
    intro σ' H' s' I' none' b hb
    exact ⟨none' b hb, (I'.ok.exf b hb).1, I'.ok.exfs b hb, .inl hb, fun x c e => (I'.ok.exf b hb).2 x c e, fun p hp => absurd (show p ∈ ([] : List (Addr × Obj)) ++ [] from hp) (by simp)⟩
  refine PpSet.codeAny_compStart_set ?_ (T.self X.A 0 _ _ _ stE ?_)
  all_goals
    refine PpSet.compLoopS_any (fun n s' => ∃ i H', Inv (X.blk sC HC bsc ce fp) [] (wipe σ (own.map (·.2))) H' s' ∧ tn i s'.heap ∧ (∀ b ∈ fp, H' b = none) ∧ W i n H') ?_ m0 ⟨0, HC, inner, stE, fpC, w0⟩
    rintro n sF ⟨i, HF, IF, stF, noneF, wF⟩
    rcases turn i n HF wF with ⟨stop, fin⟩ | ⟨more, Nx, hNx, each⟩
    · refine thnF (T.done (X.blk sC HC bsc ce fp) rfl rfl rfl calm i [] sF _ HF (fun _ _ => False) IF (okIn IF noneF) stF stop) fun r sG ⟨hr, IG⟩ => ?_
      subst hr
      have back : Inv X pins σ HF sG := IC.call' (ch := fp) IG.os IG.base IG.hok IG.bare fun b hb => ⟨(okC b hb).1.2.2.2.1, (okC b hb).1.2.1, (okC b hb).1.2.2.2.2.1, (okC b hb).1.2.2.2.2.2⟩
      have noLoc : HF sC.heap.objs.size = none := by
        have z : HF ce.locals = none := IG.free
        rwa [locC] at z
      obtain ⟨m, isNs, _⟩ := IG.loc
      replace isNs : sG.heap.Ns ce.locals m := isNs
      rw [locC] at isNs
      refine ⟨m, isNs, fun h'' same => ?_⟩
      obtain ⟨f0, f1, f2, f3, f4, f5⟩ := IC.fpOk (Nat.le_refl _) noLoc
      exact ⟨.ref D, HF, back.turned (t' := sG.toks) (fun b o hb e => (same.2 b hb).trans e) f0 f1 f3 f4 f5, rfl, fin⟩
    · refine thnF (T.item (X.blk sC HC bsc ce fp) rfl rfl rfl calm i [] sF _ HF (fun _ _ => False) IF (okIn IF noneF) stF more) fun r sG ⟨u, hr, yields⟩ => ?_
      subst hr
      refine thnF yields fun _ sH ⟨x, HH, IH, rH, yH, stH, noneH⟩ => ?_
      refine thnF (qg.run _ sH _ HH x u _ (IH.pinned (okIn IH noneH) (T.obj _ _ stH)) rH (each x HH yH)) fun _ sI ⟨σI, HI, II, wipeI, qI⟩ => ?_
      refine thnF (qt.run _ sI σI HI _ II qI) fun b sJ ⟨HJ, IJ, qJ⟩ => ?_
      have onward : ∀ {s' : Shared} {H' : Hp}, Inv (X.blk sC HC bsc ce fp) ([] ++ pinsAt fp sH.heap) σI H' s' → Nx H' → ∃ m, m < n ∧ ∃ i H', Inv (X.blk sC HC bsc ce fp) [] (wipe σ (own.map (·.2))) H' s' ∧ tn i s'.heap ∧ (∀ b ∈ fp, H' b = none) ∧ W i m H' := by
        intro s' H' I' nx
        obtain ⟨m', lt, w'⟩ := hNx H' nx
        have held : ∀ b ∈ fp, ∀ o, sH.heap.get? b = some o → s'.heap.get? b = some o ∧ H' b = none := by
          intro b hb o e
          have z := I'.pin (b, o) (List.mem_append_right _ (List.mem_append_right _ (mem_pinsAt hb e)))
          exact ⟨z.1, z.2.1⟩
        refine ⟨m', lt, i + 1, H', (I'.unpinned (pins := [])).weak (by rw [← wipeI, wipe_length]) (fun j v e => ?_), T.keep _ _ _ stH fun b hb o e => (held b hb o e).1, fun b hb => ?_, w'⟩
        · rw [← wipeI] at e
          exact (wipe_some e).1
        · obtain ⟨o, e, _⟩ := T.obj _ _ stH b hb
          exact (held b hb o e).2
      cases b with
      | false =>
        simp only [Bool.false_eq_true, if_false] at qJ ⊢
        exact onward IJ qJ
      | true =>
        simp only [if_true] at qJ ⊢
        refine thnF (qe.run _ sJ σI HJ _ IJ qJ) fun z sK ⟨yv, HK, IK, rK, c, S, n0, ey, atD, room, nx⟩ => ?_
        subst ey
        obtain ⟨tk, rfl⟩ : ∃ tk, z = Value.int c tk := rK
        refine thnF (mt_sadd (X := X.blk sC HC bsc ce fp) _ sK σI HK (.ref D) [.int c] (.ref D) [.int c tk] (fun _ H' => Nx H') IK rfl (.cons ⟨tk, rfl⟩ .nil) ⟨D, c, S, n0, rfl, rfl, atD, room, nx⟩) fun _ sL ⟨_, HL, IL, _, nx'⟩ => onward IL nx'
end
/-- over anything that is walked -/
theorem scWalk {w : World} {J : It} {n : Nat} {G : Hp → Prop} {Y : Nat → Hp → V → Hp → Prop} {g : TG} {tt : TT} {te : TE} {vs : List Nat} {σ : L2.St} {D : Addr} {H : Hp} {Q : VK} (wk : Walk J n G Y) (Pv : Nat → Hp → Prop)
    (h0 : Pv 0 (upd H D (SetO w D (fun _ => false) 0))) (hG : ∀ i H, i ≤ n → Pv i H → G H)
    (each : ∀ i x H H', i < n → Pv i H → Y i H x H' → g x (wipe σ vs) H' fun σ2 H2 => wipe σ2 vs = wipe σ vs ∧ tt σ2 H2 fun b H3 =>
      if b = true then te σ2 H3 fun y H4 => ∃ (c : Int) (S : Int → Bool) (m : Nat), y = .int c ∧ H4 D = some (SetO w D S m) ∧ m + 1 < scanBound ∧ Pv (i + 1) (upd H4 D (SetO w D (fun j => S j || decide (j = c)) (if S c = true then m else m + 1))) else Pv (i + 1) H3)
    (hd : ∀ H, Pv n H → Q (.ref D) H) : ScGo w J g tt te vs σ D H Q := by
  refine ⟨fun i m H => m = n - i ∧ i ≤ n ∧ Pv i H, ⟨n, rfl, Nat.zero_le _, h0⟩, ?_⟩
  rintro i m H ⟨rfl, hi, p⟩
  by_cases lt : i < n
  · exact .inr ⟨wk.goes i H lt (hG i H hi p), Pv (i + 1), fun H' p' => ⟨n - (i + 1), by omega, rfl, lt, p'⟩, fun x H' y => each i x H H' lt p (wk.yields i H x H' lt (hG i H hi p) y)⟩
  · obtain rfl : i = n := by omega
    exact .inl ⟨wk.stops H (hG _ H hi p), hd H p⟩
theorem R.sc {w : World} {wi : TI} {g : TG} {tt : TT} {te : TE} {vs : List Nat} {σ : L2.St} {H : Hp} {Q : VK} (q : wi σ H fun J H1 => ∀ D, H1 D = none → ScGo w J g tt te vs σ D H1 Q) : tScI w wi g tt te vs σ H Q := q
end Rl
namespace Rl
open PySem PySem.Spec PyProof.Rows L2
/-! ## the old machine's rows, as they are decoded -/
inductive Sh where
  | e | rs | rn | n | r
  deriving DecidableEq
def box (i : Int) : Str := ⟨#[97 + i.toNat]⟩
def alone (i : Int) : Str := (["halt", "back", "rest"] : List Str).getD i.toNat "rest"
def single (i : Int) : Str := (["in", "out", "keep", "take"] : List Str).getD i.toNat "in"
def target (i : Int) : Str := (["go", "zero", "nonzero", "less", "notless", "call"] : List Str).getD i.toNat "go"
def pairT : List (Int × Str) := [(2, "copy"), (3, "add"), (4, "sub"), (5, "and"), (6, "or"), (7, "xor"), (8, "test"), (10, "load"), (11, "store")]
def numT : List (Int × Str) := [(1, "set"), (9, "testn"), (12, "loadn"), (13, "storen")]
/-- the word of a first byte, and what follows it -/
def dec (b : Int) : Option (Str × Sh) :=
  if b < 3 then some (alone b, .e)
  else if b / 16 = 15 then some (single (b % 4), .r)
  else match pairT.lookup (b / 16) with
    | some w => some (w, .rs)
    | none => if b / 16 = 14 ∧ b % 16 < 6 then some (target (b % 16), .n)
      else match numT.lookup (b / 16) with
        | some w => if b % 4 = 0 then some (w, .rn) else none
        | none => none
def boxR (b : Int) : Str := box (b / 4 % 4)
def boxS (b : Int) : Str := box (b % 4)
/-- what a row is, as data: by its first byte and the one behind -/
def rowD (b n : Int) : Option (List PyData) := (dec b).map fun p => .str p.1 :: match p.2 with
  | .e => []
  | .rs => [.str (boxR b), .str (boxS b)]
  | .rn => [.str (boxR b), .int n]
  | .n => [.int n]
  | .r => [.str (boxR b)]
def isLong (b : Int) : Bool := match dec b with
  | some (_, .rn) => true
  | some (_, .n) => true
  | _ => false
/-- the row at an address and how many bytes it has -/
def rowAt (ns : List Int) (a : Int) : Option (List PyData × Int) :=
  if 0 ≤ a ∧ a < ns.length then
    (if isLong (ns.getD a.toNat 0) = true then (if a + 1 < ns.length then (rowD (ns.getD a.toNat 0) (ns.getD (a.toNat + 1) 0)).map fun l => (l, 2) else none)
    else (rowD (ns.getD a.toNat 0) 0).map fun l => (l, 1))
  else none
def optD : Option (List PyData) → PyData
  | some l => .tuple l
  | none => .none
def atD : Option (List PyData × Int) → PyData
  | some (l, m) => .tuple [.tuple l, .int m]
  | none => .none
/-- bytes -/
def By (ns : List Int) : Prop := ∀ n ∈ ns, 0 ≤ n ∧ n < 256
/-- a list or a tuple of these ints -/
def Code (K : PySem.W.Frag) (H : Hp) (v : V) (ns : List Int) : Prop := ∃ a, v = .ref a ∧ (SqL K H a (ns.map V.int) ∨ SqT K H a (ns.map V.int))
theorem Code.mono {K : PySem.W.Frag} {H H' : Hp} {v : V} {ns : List Int} (e : Same H H') (h : Code K H v ns) : Code K H' v ns := by
  obtain ⟨a, q, h⟩ := h
  exact ⟨a, q, h.elim (fun h => .inl (SqL.mono e h)) fun h => .inr (SqT.mono e h)⟩
theorem R.lenC {K : PySem.W.Frag} {H : Hp} {c : V} {ns : List Int} {Q : VK} (h : Code K H c ns) (q : Q (.int ns.length) H) : rLenA K [c] H Q := by
  obtain ⟨p, rfl, h⟩ := h
  rcases h with h | h
  · refine R.lenL h ?_
    rw [List.length_map]
    exact q
  · refine R.lenT h ?_
    rw [List.length_map]
    exact q
theorem R.ixC {K : PySem.W.Frag} {H : Hp} {c : V} {ns : List Int} {Q : VK} {i : Int} (h : Code K H c ns) (h0 : 0 ≤ i) (h1 : i < ns.length) (q : ∀ m, ns[i.toNat]? = some m → m ∈ ns → Q (.int m) H) : rIx K c (.int i) H Q := by
  obtain ⟨p, rfl, h⟩ := h
  have hl : i.toNat < ns.length := by omega
  have e : ns[i.toNat]? = some ns[i.toNat] := List.getElem?_eq_getElem hl
  have g : atI (ns.map V.int) i = some (.int ns[i.toNat]) := R.atI_pos h0 (by rw [List.getElem?_map, e]; rfl)
  rcases h with h | h
  · exact R.ixL h g (q _ e (List.mem_of_getElem? e))
  · exact R.ixT h g (q _ e (List.mem_of_getElem? e))
theorem SqL.code {K : PySem.W.Frag} {H : Hp} {p : Addr} {ns : List Int} (h : SqL K H p (ns.map V.int)) : Code K H (.ref p) ns := ⟨p, rfl, .inl h⟩
theorem SqT.code {K : PySem.W.Frag} {H : Hp} {p : Addr} {ns : List Int} (h : SqT K H p (ns.map V.int)) : Code K H (.ref p) ns := ⟨p, rfl, .inr h⟩
/-- the module's constants -/
structure MachC (K : PySem.W.Frag) (w : World) : Prop where
  alone : ∀ H, SqT K H (He.ga K "ALONE") [.str "halt", .str "back", .str "rest"]
  single : ∀ H, SqT K H (He.ga K "SINGLE") [.str "in", .str "out", .str "keep", .str "take"]
  targets : ∀ H, SqT K H (He.ga K "TARGETS") [.str "go", .str "zero", .str "nonzero", .str "less", .str "notless", .str "call"]
  pairs : KD K w (He.ga K "WORDS_OF_PAIRS") (pairT.map fun p => (Sum.inl p.1, V.str p.2))
  nums : KD K w (He.ga K "WORDS_OF_NUMBERED") (numT.map fun p => (Sum.inl p.1, V.str p.2))
theorem atI_abcd {i : Int} (h0 : 0 ≤ i) (h4 : i < 4) : atI ("abcd" : Str).cps.toList i = some (97 + i.toNat) := by
  obtain rfl | rfl | rfl | rfl : i = 0 ∨ i = 1 ∨ i = 2 ∨ i = 3 := by omega
  all_goals decide
/-! ## promises -/
def sp_short_row (K : PySem.W.Frag) (_ : World) : Sp := fun vs H Q _ => ∃ b : Int, vs = [.int b] ∧ 0 ≤ b ∧ b < 256 ∧ ∀ v H', Same H H' → Dp K H' v (optD (if isLong b then none else rowD b 0)) → Q v H'
def sp_long_row (K : PySem.W.Frag) (_ : World) : Sp := fun vs H Q _ => ∃ b n : Int, vs = [.int b, .int n] ∧ 0 ≤ b ∧ b < 256 ∧ ∀ v H', Same H H' → Dp K H' v (optD (if isLong b then rowD b n else none)) → Q v H'
def sp_row_at (K : PySem.W.Frag) (_ : World) : Sp := fun vs H Q _ => ∃ (c : V) (ns : List Int) (a : Int), vs = [c, .int a] ∧ Code K H c ns ∧ By ns ∧ ∀ v H', Same H H' → Dp K H' v (atD (rowAt ns a)) → Q v H'
end Rl
namespace Rl
open PySem PySem.Spec PyProof.Rows L2
/-! ## the law's reel of draws -/
/-- all but what stands at r is as it was -/
abbrev Fx (r : Addr) (H H' : Hp) : Prop := Same (but r H) (but r H')
theorem Fx.refl (r : Addr) (H : Hp) : Fx r H H := Same.refl _
theorem Fx.at {r a : Addr} {H H' : Hp} {o : HO} (h : Fx r H H') (n : a ≠ r) (e : H a = some o) : H' a = some o := Same.of_but h n e
/-- a reel stands at r: great cells, told ones, how many draws, the number that is stirred; nothing of it in S -/
def Reel (H : Hp) (r : Addr) (S : Addr → Prop) : Prop := ∃ (g c : Addr) (k st : Int) (gs cs : List Int), H r = some (.lst [.ref g, .ref c, .int k, .int st]) ∧
  H g = some (.lst (gs.map V.int)) ∧ H c = some (.lst (cs.map V.int)) ∧ g ≠ r ∧ c ≠ r ∧ cs ≠ [] ∧ gs.length ≤ 1000 ∧ 0 ≤ st ∧ st < 2 ^ 127 ∧ ¬ S g ∧ ¬ S c ∧ ¬ S r ∧ ∀ a, S a → ∃ o, H a = some o
abbrev S0 : Addr → Prop := fun _ => False
abbrev S1 (l : Addr) (S : Addr → Prop) : Addr → Prop := fun a => a = l ∨ S a
section
variable {H H' : Hp} {r : Addr} {S S' : Addr → Prop}
theorem Reel.some (h : Reel H r S) : ∃ o, H r = some o := by
  obtain ⟨_, _, _, _, _, _, h, _⟩ := h
  exact ⟨_, h⟩
theorem Reel.isL (h : Reel H r S) : ∃ o, H r = Option.some (.lst o) := by
  obtain ⟨_, _, _, _, _, _, h, _⟩ := h
  exact ⟨_, h⟩
theorem Reel.ne {p : Addr} (h : Reel H r S) (n : H p = none) : p ≠ r := fun e => by
  obtain ⟨o, h⟩ := h.some
  rw [e, h] at n
  cases n
theorem Reel.neS {p : Addr} (h : Reel H r S) (n : S p) : p ≠ r := fun e => by
  obtain ⟨_, _, _, _, _, _, _, _, _, _, _, _, _, _, _, _, _, h, _⟩ := h
  exact h (e ▸ n)
/-- new things, changes elsewhere: the reel stays -/
theorem Reel.keep (h : Reel H r S) (e : Same H H') : Reel H' r S := by
  obtain ⟨g, c, k, st, gs, cs, h1, h2, h3, h4, h5, h6, h7, h8, h9, h10, h11, h12, h13⟩ := h
  exact ⟨g, c, k, st, gs, cs, e _ _ h1, e _ _ h2, e _ _ h3, h4, h5, h6, h7, h8, h9, h10, h11, h12, fun a ha => (h13 a ha).elim fun o z => ⟨o, e _ _ z⟩⟩
theorem Reel.sub (h : Reel H r S) (e : ∀ a, S' a → S a) : Reel H r S' := by
  obtain ⟨g, c, k, st, gs, cs, h1, h2, h3, h4, h5, h6, h7, h8, h9, h10, h11, h12, h13⟩ := h
  exact ⟨g, c, k, st, gs, cs, h1, h2, h3, h4, h5, h6, h7, h8, h9, fun z => h10 (e _ z), fun z => h11 (e _ z), fun z => h12 (e _ z), fun a ha => h13 a (e _ ha)⟩
theorem Reel.zero (h : Reel H r S) : Reel H r S0 := h.sub fun _ z => z.elim
theorem Reel.add {l : Addr} {o : HO} (h : Reel H r S) (n : H l = none) : Reel (upd H l o) r (S1 l S) := by
  obtain ⟨g, c, k, st, gs, cs, h1, h2, h3, h4, h5, h6, h7, h8, h9, h10, h11, h12, h13⟩ := h
  refine ⟨g, c, k, st, gs, cs, upd_get n h1, upd_get n h2, upd_get n h3, h4, h5, h6, h7, h8, h9, fun z => z.elim (ne_of_none h2 n) h10, fun z => z.elim (ne_of_none h3 n) h11, fun z => z.elim (ne_of_none h1 n) h12, fun a ha => ?_⟩
  rcases ha with rfl | ha
  · exact ⟨_, upd_same⟩
  · obtain ⟨o, z⟩ := h13 a ha
    exact ⟨o, upd_get n z⟩
theorem Reel.mut {l : Addr} {o : HO} (h : Reel H r S) (n : S l) : Reel (upd H l o) r S := by
  obtain ⟨g, c, k, st, gs, cs, h1, h2, h3, h4, h5, h6, h7, h8, h9, h10, h11, h12, h13⟩ := h
  refine ⟨g, c, k, st, gs, cs, upd_mut (fun z => h12 (z ▸ n)) h1, upd_mut (fun z => h10 (z ▸ n)) h2, upd_mut (fun z => h11 (z ▸ n)) h3, h4, h5, h6, h7, h8, h9, h10, h11, h12, fun a ha => ?_⟩
  by_cases e : a = l
  · rw [e]
    exact ⟨_, upd_same⟩
  · obtain ⟨o, z⟩ := h13 a ha
    exact ⟨o, upd_mut e z⟩
end
theorem shaped_ints (ns : List Int) : SeqAt.shaped (.list (ns.map PyData.int)) = true := by
  have h1 : ∀ ns : List Int, PyData.canLayAll0 (ns.map PyData.int) = true := fun ns => by
    induction ns with
    | nil => simp only [List.map_nil, PyData.canLayAll0]
    | cons n r ih => simp only [List.map_cons, PyData.canLayAll0, PyData.canLay0, ih, Bool.and_self]
  have h2 : ∀ ns : List Int, PyData.depthAll (ns.map PyData.int) = 0 := fun ns => by
    induction ns with
    | nil => simp only [List.map_nil, PyData.depthAll]
    | cons n r ih => simp only [List.map_cons, PyData.depthAll, PyData.depth, ih]; rfl
  unfold SeqAt.shaped
  simp only [PyData.canLay0, PyData.depth, h1, h2]
  rfl
theorem eqv_ints_nil (ns : List Int) : PyData.eqv (.list (ns.map PyData.int)) (.list []) = ns.isEmpty := by
  cases ns with
  | nil => simp only [List.map_nil, PyData.eqv, PyData.eqvAll, List.isEmpty_nil]
  | cons n r => simp only [List.map_cons, PyData.eqv, PyData.eqvAll, List.isEmpty_cons]
theorem eqvAll_ints (ns : List Int) : PyData.eqvAll (ns.map PyData.int) (ns.map PyData.int) = true := by
  induction ns with
  | nil => simp only [List.map_nil, PyData.eqvAll]
  | cons n r ih => simp only [List.map_cons, PyData.eqvAll, PyData.eqv, ih]; simp
theorem eqv_ints (ns : List Int) : PyData.eqv (.list (ns.map PyData.int)) (.list (ns.map PyData.int)) = true := by
  simp only [PyData.eqv, eqvAll_ints]
theorem SqL.ints {K : PySem.W.Frag} {H : Hp} {p : Addr} {ns : List Int} (h : SqL K H p (ns.map V.int)) : Dp K H (.ref p) (.list (ns.map PyData.int)) := .lst h (DpAll.ints ns)
theorem Fx.trans {r : Addr} {H1 H2 H3 : Hp} (a : Fx r H1 H2) (b : Fx r H2 H3) : Fx r H1 H3 := Same.trans a b
theorem Fx.same {r : Addr} {B H H' : Hp} (h : Fx r H H') (hb : B r = none) (e : Same B H) : Same B H' := fun a o z => h.at (ne_of_none z hb) (e a o z)
theorem Fx.mutN {r l : Addr} {H H' : Hp} {o : HO} (n : H l = none) (h : Fx r H H') : Fx r H (upd H' l o) := fun b u e => by
  have nb : b ≠ r := fun z => by
    rw [z, but_none] at e
    cases e
  have nl : b ≠ l := fun z => by
    have e2 := but_same b u e
    rw [z, n] at e2
    cases e2
  exact but_get nb (upd_mut nl (but_same b u (h b u e)))
/-- what is free then was free -/
theorem Fx.free {r l : Addr} {H H' : Hp} {S : Addr → Prop} (h : Fx r H H') (hR : Reel H' r S) (n : H' l = none) : H l = none := by
  cases e : H l with
  | none => rfl
  | some o =>
    have z := h.at (hR.ne n) e
    rw [n] at z
    cases z
theorem Same.mut {B H : Hp} {l : Addr} {o : HO} (hb : B l = none) (e : Same B H) : Same B (upd H l o) := fun a o z => upd_mut (ne_of_none z hb) (e a o z)
/-- [a draw of the reel for k in range(n)]: a new list of ints -/
theorem lcDraws {σ : L2.St} {H : Hp} {Q : VK} {te : TE} {j : Nat} {lo : Int} {m : Nat} {r : Addr} {S : Addr → Prop} (P : Int → Prop) (hR : Reel H r S) (hm : m < sizeLine) (hw : ∀ x, wipe ((wipe σ [j]).set j (some x)) [j] = wipe σ [j])
    (he : ∀ i D H', i < m → H D = none → Fx r H H' → Reel H' r (S1 D S) → ∀ Q : VK, (∀ v H'', Fx r H' H'' → Reel H'' r (S1 D S) → P v → Q (.int v) H'') → te ((wipe σ [j]).set j (some (.int (lo + (i : Nat))))) H' Q)
    (q : ∀ D H' (ns : List Int), H D = none → D ≠ r → Fx r H H' → Reel H' r (S1 D S) → H' D = some (.lst (ns.map V.int)) → ns.length = m → (∀ v ∈ ns, P v) → Q (.ref D) H') :
    ∀ D, H D = none → R.LcLoop (Itr lo m) (L2.gName j) tYes te [j] σ D H Q := by
  intro D hD
  have nD : D ≠ r := hR.ne hD
  refine R.lcI walk_range (fun i H' => Fx r H H' ∧ Reel H' r (S1 D S) ∧ ∃ ns : List Int, H' D = some (.lst (ns.map V.int)) ∧ ns.length = i ∧ ∀ v ∈ ns, P v) ⟨sm_bnew hD (Same.refl _), hR.add hD, [], upd_same, rfl, fun v hv => by cases hv⟩ (fun _ _ _ _ => True.intro) ?_ ?_
  · rintro i x H1 H' hi ⟨z1, z2, ns, z3, z4, z5⟩ ⟨rfl, rfl⟩
    refine ⟨hw _, ?_⟩
    unfold tYes
    refine iteT (he i D _ hi hD z1 z2 _ fun v H'' e2 r2 pv => ?_)
    have hD2 : H'' D = some (.lst (ns.map V.int)) := e2.at nD z3
    refine ⟨_, hD2, ?_, ?_, r2.mut (.inl rfl), ns ++ [v], ?_, ?_, ?_⟩
    · rw [List.length_map, z4]
      omega
    · intro b o e
      have nb : b ≠ r := fun z => by
        rw [z, but_none] at e
        cases e
      have e3 := e2 b o (z1 b o e)
      have hb : H b = some o := but_same b o e
      exact but_get nb (upd_mut (ne_of_none hb hD) (but_same b o e3))
    · rw [upd_same, List.map_append]
      rfl
    · rw [List.length_append, z4]
      rfl
    · intro u hu
      rcases List.mem_append.mp hu with hu | hu
      · exact z5 u hu
      · rw [List.mem_singleton.mp hu]
        exact pv
  · rintro H' ⟨z1, z2, ns, z3, z4, z5⟩
    exact q D H' ns hD nD z1 z2 z3 z4 z5
theorem By.set {ds : List Int} {k : Nat} {v : Int} (h : By ds) (h0 : 0 ≤ v) (h1 : v < 256) : By (ds.set k v) := fun n hn => by
  rcases List.mem_or_eq_of_mem_set hn with z | z
  · exact h n z
  · rw [z]
    exact ⟨h0, h1⟩
theorem By.take_add {ds : List Int} {k : Nat} {v : Int} (h : By ds) (h0 : 0 ≤ v) (h1 : v < 256) : By (ds.take k ++ [v]) := fun n hn => by
  rcases List.mem_append.mp hn with z | z
  · exact h n (List.mem_of_mem_take z)
  · rw [List.mem_singleton.mp z]
    exact ⟨h0, h1⟩
end Rl
namespace Rl
open PySem PySem.Spec PyProof.Rows L2
/-! ## the other laws' spring of draws -/
/-- a spring stands at r: the figures left, the number that is stirred, how many draws came of it -/
def Spr (H : Hp) (r : Addr) : Prop := ∃ a b c : Int, H r = some (.lst [.int a, .int b, .int c]) ∧ 0 ≤ a ∧ 0 ≤ b ∧ b < 2305843009213693951
theorem Spr.some {H : Hp} {r : Addr} (h : Spr H r) : ∃ o, H r = some o := by
  obtain ⟨_, _, _, h, _⟩ := h
  exact ⟨_, h⟩
theorem Spr.ne {H : Hp} {r p : Addr} (h : Spr H r) (n : H p = none) : p ≠ r := fun e => by
  obtain ⟨o, h⟩ := h.some
  rw [e, h] at n
  cases n
theorem Spr.keep {H H' : Hp} {r : Addr} (h : Spr H r) (e : Same H H') : Spr H' r := by
  obtain ⟨a, b, c, h1, h2⟩ := h
  exact ⟨a, b, c, e _ _ h1, h2⟩
theorem Spr.mut {H : Hp} {r l : Addr} {o : HO} (h : Spr H r) (n : l ≠ r) : Spr (upd H l o) r := by
  obtain ⟨a, b, c, h1, h2⟩ := h
  exact ⟨a, b, c, upd_mut n.symm h1, h2⟩
/-- what was not there is not there ahead -/
theorem Fx.freeS {r l : Addr} {H H' : Hp} (h : Fx r H H') (hR : Spr H' r) (n : H' l = none) : H l = none := by
  cases e : H l with
  | none => rfl
  | some v =>
    have z := h.at (hR.ne n) e
    rw [n] at z
    cases z
def sp_law_spring (K : PySem.W.Frag) (_ : World) : Sp := fun vs H Q _ => ∃ (a : Addr) (ns : List Int), vs = [.ref a] ∧ SqL K H a (ns.map V.int) ∧ ns.length ≤ 63 ∧ ∀ r H', Same H H' → H r = none → Spr H' r → Q (.ref r) H'
def sp_law_draw (_ : PySem.W.Frag) (_ : World) : Sp := fun vs H Q _ => ∃ (r : Addr) (m : Int), vs = [.ref r, .int m] ∧ Spr H r ∧ 0 < m ∧ m < 1073741824 ∧ ∀ n H', Fx r H H' → Spr H' r → 0 ≤ n → n < m → Q (.int n) H'
theorem len_law_spring {K : PySem.W.Frag} {w : World} {vs : List V} {H : Hp} {Q : VK} {E : XK} (h : sp_law_spring K w vs H Q E) : vs.length = 1 := by
  obtain ⟨a, ns, rfl, _⟩ := h
  rfl
theorem len_law_draw {K : PySem.W.Frag} {w : World} {vs : List V} {H : Hp} {Q : VK} {E : XK} (h : sp_law_draw K w vs H Q E) : vs.length = 2 := by
  obtain ⟨r, m, rfl, _⟩ := h
  rfl
end Rl
namespace Rl
open PySem PySem.Spec PyProof.Rows L2
/-- _law_spring: slots 0 _law_script, 1 _law_figures, 2 _law_stir, 3 _law_cell -/
def t_law_spring (K : PySem.W.Frag) (w : World) : TS :=
  (tSeq (tAsg (tC (.int 0)) (gName 1)) (tSeq (tAsg (tC (.int 88651)) (gName 2)) (tSeq (tFor (iSeq K (tSl (rSlA K) (tVar 0) tNoPart (tPart (tC (.int 63))))) (gName 3) (tSeq (tIfS (tTest (tOp (rGeA) (tCB (rAbs) (tCons (tVar 3) tNil)) (tOp (rPowA) (tC (.int 10)) (tC (.int 18))))) (tAsg (tOp (rAddA K) (tOp (rMulA) (tVar 1) (tOp (rPowA) (tC (.int 10)) (tC (.int 60)))) (tOp (rModA) (tCB (rAbs) (tCons (tVar 3) tNil)) (tOp (rPowA) (tC (.int 10)) (tC (.int 60))))) (gName 1)) tNext) (tAsg (tOp (rModA) (tOp (rAddA K) (tOp (rAddA K) (tOp (rMulA) (tVar 2) (tC (.int 69069))) (tOp (rModA) (tVar 3) (tC (.int 2305843009213693921)))) (tC (.int 7))) (tC (.int 2305843009213693951))) (gName 2)))) (tRet (tLst (tCons (tVar 1) (tCons (tVar 2) (tCons (tC (.int 0)) tNil))))))))
abbrev N_law_spring : List Str := ["_law_script", "_law_figures", "_law_stir", "_law_cell"]

/-- _law_draw: slots 0 _law_spring_here, 1 _law_many, 2 _law_found, 3 _law_stir -/
def t_law_draw (K : PySem.W.Frag) (w : World) : TS :=
  (tSeq (tIfS (tTest (tOp (rGtA) (tOp (rIx K) (tVar 0) (tC (.int 0))) (tC (.int 0)))) (tSeq (tAsg (tOp (rModA) (tOp (rIx K) (tVar 0) (tC (.int 0))) (tVar 1)) (gName 2)) (tSeq (tAsg (tOp (rDivA) (tOp (rIx K) (tVar 0) (tC (.int 0))) (tVar 1)) (gSub (tVar 0) (tC (.int 0)) rSetL)) (tRet (tVar 2)))) tNext) (tSeq (tAsg (tOp (rAddA K) (tOp (rIx K) (tVar 0) (tC (.int 2))) (tC (.int 1))) (gSub (tVar 0) (tC (.int 2)) rSetL)) (tSeq (tAsg (tOp (rModA) (tOp (rMulA) (tOp (rIx K) (tVar 0) (tC (.int 1))) (tOp (rIx K) (tVar 0) (tC (.int 1)))) (tC (.int 2305843009213693951))) (gName 3)) (tSeq (tAsg (tOp (rModA) (tOp (rAddA K) (tOp (rAddA K) (tVar 3) (tOp (rMulA) (tOp (rMulA) (tC (.int 7919)) (tOp (rIx K) (tVar 0) (tC (.int 2)))) (tOp (rIx K) (tVar 0) (tC (.int 1))))) (tC (.int 104729))) (tC (.int 2305843009213693951))) (gSub (tVar 0) (tC (.int 1)) rSetL)) (tRet (tOp (rModA) (tOp (rDivA) (tOp (rIx K) (tVar 0) (tC (.int 1))) (tC (.int 65537))) (tVar 1)))))))
abbrev N_law_draw : List Str := ["_law_spring_here", "_law_many", "_law_found", "_law_stir"]

end Rl
namespace Rl
open PySem PySem.Spec PyProof.Rows L2
/-! ## the law's table of first bytes -/
def shS : Sh → Str
  | .e => ""
  | .rs => "rs"
  | .rn => "rn"
  | .n => "n"
  | .r => "r"
abbrev TEnt := Option (Str × Str)
def Ent (H : Hp) (v : V) : TEnt → Prop
  | none => v = .non
  | some (a, b) => ∃ p, v = .ref p ∧ H p = some (.tup [.str a, .str b])
theorem Ent.mono {H H' : Hp} {v : V} {e : TEnt} (s : Same H H') (h : Ent H v e) : Ent H' v e := by
  cases e with
  | none => exact h
  | some e =>
    obtain ⟨p, h1, h2⟩ := h
    exact ⟨p, h1, s _ _ h2⟩
structure Tab (H : Hp) (t : Addr) (T : List TEnt) : Prop where
  len : T.length = 256
  ex : ∃ xs : List V, H t = some (.lst xs) ∧ xs.length = 256 ∧ ∀ (i : Nat) (v : V) (e : TEnt), xs[i]? = some v → T[i]? = some e → Ent H v e
theorem Tab.mono {H H' : Hp} {t : Addr} {T : List TEnt} (s : Same H H') (h : Tab H t T) : Tab H' t T := by
  obtain ⟨h0, xs, h1, h2, h3⟩ := h
  exact ⟨h0, xs, s _ _ h1, h2, fun i v e a b => (h3 i v e a b).mono s⟩
theorem Tab.ne {H : Hp} {t p : Addr} {T : List TEnt} (h : Tab H t T) (n : H p = none) : p ≠ t := by
  obtain ⟨_, xs, g, _⟩ := h
  exact fun z => by rw [z, g] at n; cases n
theorem Tab.but {H : Hp} {t r : Addr} {T : List TEnt} {rs : List V} (h : Tab H t T) (n : t ≠ r) (e : H r = some (.lst rs)) : Tab (but r H) t T := by
  obtain ⟨h0, xs, h1, h2, h3⟩ := h
  refine ⟨h0, xs, but_get n h1, h2, fun i v e' a b => ?_⟩
  have z := h3 i v e' a b
  cases e' with
  | none => exact z
  | some e' =>
    obtain ⟨p, z1, z2⟩ := z
    exact ⟨p, z1, but_get (fun y => by rw [y, e] at z2; cases z2) z2⟩
theorem Tab.get {K : PySem.W.Frag} {H : Hp} {t : Addr} {T : List TEnt} (h : Tab H t T) {i : Int} (h0 : 0 ≤ i) (h1 : i < 256) {e : TEnt} (he : T[i.toNat]? = some e) {Q : VK} (q : ∀ v, Ent H v e → Q v H) : rIx K (.ref t) (.int i) H Q := by
  obtain ⟨g0, xs, g1, g2, g3⟩ := h
  exact R.ixLV (SqL.of g1) h0 (by omega) fun m hm _ => q m (g3 _ _ _ hm he)
theorem R.setTab {H : Hp} {t p : Addr} {T : List TEnt} {a b : Str} {i : Int} {n : Nat} {QS : Hp → Prop} (h : Tab H t T) (hp : H p = some (.tup [.str a, .str b])) (hn : i = (n : Int)) (h1 : n < 256)
    (q : ∀ H', Tab H' t (T.set n (some (a, b))) → Fx t H H' → QS H') : rSetL (.ref t) (.int i) (.ref p) H QS := by
  obtain ⟨g0, xs, g1, g2, g3⟩ := h
  refine R.setL (k := n) g1 ?_ (q _ ⟨?_, xs.set n (.ref p), upd_same, ?_, ?_⟩ ?_)
  · rw [hn, g2]
    unfold ixN
    rw [if_pos (by omega), if_pos (by omega)]
    rfl
  · rw [List.length_set]; exact g0
  · rw [List.length_set]; exact g2
  · intro j v e h2 h3
    have np : p ≠ t := fun z => by
      rw [z, g1] at hp
      cases hp
    by_cases hj : n = j
    · subst hj
      rw [List.getElem?_set_self (by omega)] at h2 h3
      obtain rfl := Option.some.inj h2
      obtain rfl := Option.some.inj h3
      exact ⟨p, rfl, by rw [upd_ne np]; exact hp⟩
    · rw [List.getElem?_set_ne hj] at h2 h3
      have z := g3 j v e h2 h3
      cases e with
      | none => exact z
      | some e =>
        obtain ⟨p2, z1, z2⟩ := z
        refine ⟨p2, z1, ?_⟩
        rw [upd_ne]
        · exact z2
        · intro z3
          rw [z3, g1] at z2
          cases z2
  · exact sm_bmut (Same.refl _)
def w1 (k : Nat) : Str := (["halt", "back", "rest"] : List Str).getD k ""
def w2 (k : Nat) : Str := (["copy", "add", "sub", "and", "or", "xor", "test", "", "load", "store"] : List Str).getD k ""
def w3 (k : Nat) : Nat × Str := ([(1, "set"), (9, "testn"), (12, "loadn"), (13, "storen")] : List (Nat × Str)).getD k (0, "")
def w4 (k : Nat) : Str := (["go", "zero", "nonzero", "less", "notless", "call"] : List Str).getD k ""
def w5 (k : Nat) : Str := (["in", "out", "keep", "take"] : List Str).getD (k % 4) ""
abbrev TL := List TEnt
def tb0 : TL := List.replicate 256 none
def tb1 (i : Nat) : TL := (List.range i).foldl (fun T k => T.set k (some (w1 k, ""))) tb0
def in2 (k : Nat) (T : TL) (j : Nat) : TL := (List.range j).foldl (fun T j => T.set (32 + 16 * k + j) (some (w2 k, "rs"))) T
def n2 (k : Nat) : Nat := if w2 k = "" then 0 else 16
def tb2 (i : Nat) : TL := (List.range i).foldl (fun T k => in2 k T (n2 k)) (tb1 3)
def in3 (k : Nat) (T : TL) (j : Nat) : TL := (List.range j).foldl (fun T j => T.set (16 * (w3 k).1 + 4 * j) (some ((w3 k).2, "rn"))) T
def tb3 (i : Nat) : TL := (List.range i).foldl (fun T k => in3 k T 4) (tb2 10)
def tb4 (i : Nat) : TL := (List.range i).foldl (fun T k => T.set (224 + k) (some (w4 k, "n"))) (tb3 4)
def tb5 (i : Nat) : TL := (List.range i).foldl (fun T k => T.set (240 + k) (some (w5 k, "r"))) (tb4 6)
theorem fold_succ {α : Type} (f : α → Nat → α) (x : α) (i : Nat) : (List.range (i + 1)).foldl f x = f ((List.range i).foldl f x) i := by
  rw [List.range_succ, List.foldl_append]
  rfl
theorem tb2_0 : tb2 0 = tb1 3 := by unfold tb2; rw [List.range_zero, List.foldl_nil]
theorem tb3_0 : tb3 0 = tb2 10 := by unfold tb3; rw [List.range_zero, List.foldl_nil]
theorem tb4_0 : tb4 0 = tb3 4 := by unfold tb4; rw [List.range_zero, List.foldl_nil]
theorem tb5_0 : tb5 0 = tb4 6 := by unfold tb5; rw [List.range_zero, List.foldl_nil]
theorem in2_0 (k : Nat) (T : TL) : in2 k T 0 = T := by unfold in2; rw [List.range_zero, List.foldl_nil]
theorem in3_0 (k : Nat) (T : TL) : in3 k T 0 = T := by unfold in3; rw [List.range_zero, List.foldl_nil]
abbrev tabT : TL := tb5 16
theorem tab_dec : ∀ b : Fin 256, tabT[b.val]? = some ((dec (b.val : Int)).map fun p => (p.1, shS p.2)) := by decide +kernel
theorem tabT_at {i : Int} (h0 : 0 ≤ i) (h1 : i < 256) : tabT[i.toNat]? = some ((dec i).map fun p => (p.1, shS p.2)) := by
  have h := tab_dec ⟨i.toNat, by omega⟩
  have e : ((i.toNat : Nat) : Int) = i := Int.toNat_of_nonneg h0
  rw [← e]
  exact h
def sp_law_table (K : PySem.W.Frag) (_ : World) : Sp := fun vs H Q _ => vs = [] ∧ ∀ t H', Same H H' → H t = none → Tab H' t tabT → Q (.ref t) H'
theorem len_law_table {K : PySem.W.Frag} {w : World} {vs : List V} {H : Hp} {Q : VK} {E : XK} (h : sp_law_table K w vs H Q E) : vs.length = 0 := by
  obtain ⟨rfl, _⟩ := h
  rfl
end Rl
namespace Rl
open PySem PySem.Spec PyProof.Rows L2
/-! ## the law's own likeness: two things that are the same data -/
/-- no deeper than n, no list too long -/
def Nrw : Nat → PyData → Prop
  | 0, .list _ => False
  | 0, .tuple _ => False
  | n + 1, .list ds => ds.length < sizeLine ∧ ∀ d ∈ ds, Nrw n d
  | n + 1, .tuple ds => ds.length < sizeLine ∧ ∀ d ∈ ds, Nrw n d
  | _, _ => True
def spA (K : PySem.W.Frag) (_ : World) : Nat → Sp
  | 0 => fun _ _ _ _ => False
  | n + 1 => fun vs H Q _ => ∃ f d data, vs = [f, d] ∧ Dp K H f data ∧ Dp K H d data ∧ Nrw n data ∧ ∀ H', Same H H' → Q (.bl true) H'
abbrev sp_law_alike (K : PySem.W.Frag) (w : World) : Sp := spA K w 4
theorem len_law_alike {K : PySem.W.Frag} {w : World} {n : Nat} {vs : List V} {H : Hp} {Q : VK} {E : XK} (h : spA K w n vs H Q E) : vs.length = 2 := by
  cases n with
  | zero => cases h
  | succ n =>
    obtain ⟨f, d, data, rfl, _⟩ := h
    rfl
theorem all_true (n : Nat) : ((List.range n).map fun _ => true).all id = true := by
  rw [List.all_map]
  exact List.all_eq_true.mpr fun _ _ => rfl
end Rl
namespace Rl
open PySem PySem.Spec PyProof.Rows L2
/-! ## the law's own row -/
def isN : Sh → Bool
  | .rn => true
  | .n => true
  | _ => false
theorem isLong_dec {b : Int} {w : Str} {sh : Sh} (h : dec b = some (w, sh)) : isLong b = isN sh := by
  unfold isLong
  rw [h]
  cases sh <;> rfl
theorem n_in (sh : Sh) : (!(Builtin.Str.occurrences (shS sh) "n" 0 (shS sh).length 1).isEmpty) = isN sh := by
  cases sh <;> decide +kernel
theorem sh_cps (sh : Sh) : ∀ c ∈ (shS sh).cps.toList, c = 114 ∨ c = 115 ∨ c = 110 := by
  cases sh <;> decide +kernel
theorem sh_size (sh : Sh) : (shS sh).cps.size < sizeLine := by
  cases sh <;> decide
theorem sh_size1 (sh : Sh) : 1 + (shS sh).cps.toList.length ≤ sizeLine := by
  cases sh <;> decide
/-- what stands for a sign -/
def fS (b n : Int) (c : Nat) : V := if c = 114 then .str (boxR b) else if c = 115 then .str (boxS b) else .int n
def restD (b n : Int) : Sh → List PyData
  | .e => []
  | .rs => [.str (boxR b), .str (boxS b)]
  | .rn => [.str (boxR b), .int n]
  | .n => [.int n]
  | .r => [.str (boxR b)]
theorem rowD_dec {b n : Int} {w : Str} {sh : Sh} (h : dec b = some (w, sh)) : rowD b n = some (.str w :: restD b n sh) := by
  unfold rowD
  rw [h]
  cases sh <;> rfl
theorem restD_n {b n m : Int} {sh : Sh} (h : isN sh = false) : restD b n sh = restD b m sh := by
  cases sh <;> first | rfl | cases h
theorem fS_dp {K : PySem.W.Frag} {H : Hp} (b n : Int) (sh : Sh) : DpAll K H ((shS sh).cps.toList.map (fS b n)) (restD b n sh) := by
  cases sh with
  | e => exact .nil
  | rs => exact .cons (.str _) (.cons (.str _) .nil)
  | rn => exact .cons (.str _) (.cons (.int _) .nil)
  | n => exact .cons (.int _) .nil
  | r => exact .cons (.str _) .nil
def sp_law_row (K : PySem.W.Frag) (_ : World) : Sp := fun vs H Q _ => ∃ (t a : Addr) (ns : List Int) (i : Int), vs = [.ref t, .ref a, .int i] ∧ Tab H t tabT ∧ SqL K H a (ns.map V.int) ∧ By ns ∧ ns.length ≤ 100000 ∧
  ∀ v H', Same H H' → Dp K H' v (atD (rowAt ns i)) → Q v H'
theorem len_law_row {K : PySem.W.Frag} {w : World} {vs : List V} {H : Hp} {Q : VK} {E : XK} (h : sp_law_row K w vs H Q E) : vs.length = 3 := by
  obtain ⟨_, _, _, _, rfl, _⟩ := h
  rfl
theorem rowAt_out {ns : List Int} {a : Int} (h : ¬ (0 ≤ a ∧ a < ns.length)) : rowAt ns a = none := by
  unfold rowAt
  exact if_neg h
theorem rowAt_in {ns : List Int} {a b : Int} (h : 0 ≤ a ∧ a < ns.length) (hb : ns[a.toNat]? = some b) : rowAt ns a = (if isLong b = true then (if a + 1 < ns.length then (rowD b (ns.getD (a.toNat + 1) 0)).map fun l => (l, 2) else none) else (rowD b 0).map fun l => (l, 1)) := by
  unfold rowAt
  rw [if_pos h, List.getD_eq_getElem?_getD, hb]
  rfl
theorem nrw_rest (b n : Int) (sh : Sh) : (restD b n sh).length ≤ 2 ∧ ∀ d ∈ restD b n sh, Nrw 1 d := by
  cases sh <;> refine ⟨Nat.le_of_ble_eq_true rfl, fun d hd => ?_⟩ <;> unfold restD at hd <;> simp only [List.mem_cons, List.not_mem_nil, or_false] at hd
  · rcases hd with rfl | rfl <;> exact True.intro
  · rcases hd with rfl | rfl <;> exact True.intro
  · rw [hd]; exact True.intro
  · rw [hd]; exact True.intro
theorem nrw_rowD {b n : Int} {l : List PyData} (h : rowD b n = some l) : Nrw 2 (.tuple l) := by
  cases hd : dec b with
  | none =>
    unfold rowD at h
    rw [hd] at h
    cases h
  | some p =>
    obtain ⟨w, sh⟩ := p
    rw [rowD_dec hd] at h
    obtain rfl := Option.some.inj h
    obtain ⟨h1, h2⟩ := nrw_rest b n sh
    refine ⟨Nat.lt_of_le_of_lt (m := 3) (by rw [List.length_cons]; omega) (by decide), fun d hd => ?_⟩
    rcases List.mem_cons.mp hd with rfl | hd
    · exact True.intro
    · exact h2 d hd
theorem nrw_at (ns : List Int) (a : Int) : Nrw 3 (atD (rowAt ns a)) := by
  cases h : rowAt ns a with
  | none => exact True.intro
  | some p =>
    obtain ⟨l, m⟩ := p
    have hl : ∃ b n, rowD b n = some l := by
      unfold rowAt at h
      split at h
      · split at h
        · split at h
          · cases g : rowD (ns.getD a.toNat 0) (ns.getD (a.toNat + 1) 0) with
            | none => rw [g] at h; cases h
            | some l2 =>
              rw [g] at h
              cases h
              exact ⟨_, _, g⟩
          · cases h
        · cases g : rowD (ns.getD a.toNat 0) 0 with
          | none => rw [g] at h; cases h
          | some l2 =>
            rw [g] at h
            cases h
            exact ⟨_, _, g⟩
      · cases h
    obtain ⟨b, n, hl⟩ := hl
    refine ⟨(by decide : 2 < sizeLine), fun d hd => ?_⟩
    rcases List.mem_cons.mp hd with rfl | hd
    · exact nrw_rowD hl
    · rw [List.mem_singleton.mp hd]
      exact True.intro
end Rl
namespace Rl
open PySem PySem.Spec PyProof.Rows L2
/-! ## where a row goes on -/
def wordOf : List PyData → Str
  | .str w :: _ => w
  | _ => ""
def numOf : List PyData → Int
  | _ :: .int n :: _ => n
  | _ => 0
def endsT : List Str := ["halt", "back", "go"]
def tgtT : List Str := ["go", "zero", "nonzero", "less", "notless", "call"]
def behind (ns : List Int) (a : Int) : Option Int := match rowAt ns a with
  | some (l, m) => if wordOf l ∈ endsT then none else some (a + m)
  | none => none
def tgt (ns : List Int) (a : Int) : Option Int := match rowAt ns a with
  | some (l, _) => if wordOf l ∈ tgtT then some (numOf l) else none
  | none => none
def isCall (ns : List Int) (a : Int) : Bool := match rowAt ns a with
  | some (l, _) => decide (wordOf l = "call")
  | none => false
def optV : Option Int → V
  | some i => .int i
  | none => .non
theorem tgt_dec : ∀ b : Fin 256, (match dec (b.val : Int) with
    | some (w, sh) => decide (w ∈ tgtT) == decide (sh = .n)
    | none => true) = true := by decide +kernel
theorem row_shape {ns : List Int} {a m : Int} {l : List PyData} (hb : By ns) (h : rowAt ns a = some (l, m)) : ∃ w rest, l = .str w :: rest ∧ (w ∈ tgtT → ∃ n, rest = [.int n]) := by
  unfold rowAt at h
  by_cases hin : 0 ≤ a ∧ a < ns.length
  · rw [if_pos hin] at h
    obtain ⟨b, e⟩ : ∃ b, ns[a.toNat]? = some b := ⟨_, List.getElem?_eq_getElem (by omega)⟩
    have hb2 := hb b (List.mem_of_getElem? e)
    have hl : ∃ n, rowD b n = some l := by
      rw [List.getD_eq_getElem?_getD, e] at h
      simp only [Option.getD_some] at h
      split at h
      · split at h
        · cases g : rowD b (ns.getD (a.toNat + 1) 0) with
          | none => rw [g] at h; cases h
          | some l2 =>
            rw [g] at h
            cases h
            exact ⟨_, g⟩
        · cases h
      · cases g : rowD b 0 with
        | none => rw [g] at h; cases h
        | some l2 =>
          rw [g] at h
          cases h
          exact ⟨_, g⟩
    obtain ⟨n, hl⟩ := hl
    cases hd : dec b with
    | none =>
      unfold rowD at hl
      rw [hd] at hl
      cases hl
    | some p =>
      obtain ⟨w, sh⟩ := p
      rw [rowD_dec hd] at hl
      refine ⟨w, restD b n sh, (Option.some.inj hl).symm, fun hw => ?_⟩
      have t := tgt_dec ⟨b.toNat, by omega⟩
      have e2 : ((b.toNat : Nat) : Int) = b := Int.toNat_of_nonneg hb2.1
      simp only [e2, hd] at t
      have hs : sh = .n := by
        rw [decide_eq_true hw] at t
        exact of_decide_eq_true (eq_of_beq t).symm
      rw [hs]
      exact ⟨n, rfl⟩
  · rw [if_neg hin] at h
    cases h
theorem dp_at {K : PySem.W.Frag} {H : Hp} {v : V} {w : Str} {rest : List PyData} {m : Int} (h : Dp K H v (atD (some (.str w :: rest, m)))) : ∃ p q xs, v = .ref p ∧ SqT K H p [.ref q, .int m] ∧ SqT K H q (.str w :: xs) ∧ DpAll K H xs rest := by
  obtain ⟨p, ys, rfl, hp, ha⟩ := dp_tup h
  cases ha with
  | cons a1 t1 =>
    cases t1 with
    | cons a2 t2 =>
      cases t2
      obtain ⟨q, xs, rfl, hq, hb⟩ := dp_tup a1
      cases hb with
      | cons b1 s1 =>
        rw [dp_str b1] at hq
        rw [dp_int a2] at hp
        exact ⟨p, q, _, rfl, hp, hq, s1⟩
theorem in_strs (w : Str) : ∀ ws : List Str, inV (.str w) (ws.map V.str) = decide (w ∈ ws)
  | [] => rfl
  | z :: ws => by
    have ih := in_strs w ws
    unfold inV at ih ⊢
    rw [List.map_cons, List.any_cons, ih]
    show (eqV (V.str z) (V.str w) || decide (w ∈ ws)) = _
    have e : eqV (V.str z) (V.str w) = decide (w = z) := by
      show decide (z = w) = decide (w = z)
      by_cases h : w = z
      · rw [decide_eq_true h, decide_eq_true h.symm]
      · rw [decide_eq_false h, decide_eq_false fun q => h q.symm]
    rw [e]
    by_cases h : w = z
    · subst h
      simp
    · simp [h]
theorem R.inStrs {K : PySem.W.Frag} {H : Hp} {Q : VK} {w : Str} {ws : List Str} {p : Addr} (h : SqL K H p (ws.map V.str) ∨ SqT K H p (ws.map V.str)) (q : Q (.bl (decide (w ∈ ws))) H) : rIn K false (.str w) (.ref p) H Q :=
  ⟨p, _, rfl, h, rfl, List.all_eq_true.mpr fun x hx => by
    obtain ⟨z, _, rfl⟩ := List.mem_map.mp hx
    rfl, by
    rw [← in_strs] at q
    exact q⟩
/-- the ints of a tuple of ints and Nones, as a set -/
theorem scOpts {K : PySem.W.Frag} {w : World} {σ : L2.St} {H : Hp} {Q : VK} {a : Addr} {j : Nat} (os : List (Option Int)) (h : SqT K H a (os.map optV)) (hl : os.length < 60) (hw : ∀ x, wipe ((wipe σ [j]).set j (some x)) [j] = wipe σ [j]) (hg : ∀ x, ((wipe σ [j]).set j (some x))[j]? = some (some x))
    (q : ∀ D H' S n, H D = none → Same H H' → H' D = some (SetO w D S n) → n < 64 → (∀ k, S k = true ↔ some k ∈ os) → Q (.ref D) H') :
    ∀ D, H D = none → ScGo w (Itt K a) (L2.gName j) (tTest (tOp rNotN (tVar j) (tC .non))) (tVar j) [j] σ D H Q := by
  intro D hD
  refine scWalk walk_tup (fun i H' => Same H H' ∧ ∃ S n, H' D = some (SetO w D S n) ∧ n ≤ i ∧ ∀ k, S k = true ↔ some k ∈ os.take i) ⟨same_upd hD, _, 0, upd_same, Nat.le_refl _, fun k => ?_⟩ (fun i H' _ z => SqT.mono z.1 h) ?_ (fun H' z => ?_)
  · constructor
    · intro z
      cases z
    · intro z
      cases z
  · rintro i x H1 H' hi ⟨z1, S, n, z2, z3, z4⟩ ⟨rfl, hx⟩
    rw [List.length_map] at hi
    rw [List.getElem?_map, List.getElem?_eq_getElem hi] at hx
    obtain rfl : optV os[i] = x := Option.some.inj hx
    have ht : os.take (i + 1) = os.take i ++ [os[i]] := by rw [List.take_add_one, List.getElem?_eq_getElem hi]; rfl
    refine ⟨hw _, ?_⟩
    refine ⟨_, hg _, rfl, ?_⟩
    cases ho : os[i] with
    | none =>
      refine ⟨false, rfl, iteF ⟨z1, S, n, z2, by omega, fun k => ?_⟩⟩
      rw [ht, ho, List.mem_append, z4 k]
      simp
    | some c =>
      refine ⟨true, rfl, iteT ⟨_, hg _, c, S, n, rfl, z2, Nat.lt_of_le_of_lt (m := 61) (by omega) (by decide), ?_, _, _, upd_same, ?_, fun k => ?_⟩⟩
      · intro b o e
        rw [upd_ne (ne_of_none e hD)]
        exact z1 _ _ e
      · split <;> omega
      · rw [ht, ho, List.mem_append, Bool.or_eq_true, z4 k, List.mem_singleton]
        constructor
        · rintro (z | z)
          · exact .inl z
          · exact .inr (by rw [of_decide_eq_true z])
        · rintro (z | z)
          · exact .inl z
          · exact .inr (decide_eq_true (Option.some.inj z))
  · obtain ⟨z1, S, n, z2, z3, z4⟩ := z
    rw [List.length_map] at z3
    rw [List.length_map, List.take_of_length_le (Nat.le_refl _)] at z4
    exact q D H' S n hD z1 z2 (by omega) z4
structure FindC (K : PySem.W.Frag) (w : World) : Prop where
  mach : MachC K w
  ends : ∀ H, SqT K H (He.ga K "ENDS") [.str "halt", .str "back", .str "go"]
/-- a new pair -/
def Pair2 (H : Hp) (v : V) (x y : Option Int) : Prop := ∃ p, v = .ref p ∧ H p = some (.tup [optV x, optV y])
def sp_behind_and_target (K : PySem.W.Frag) (_ : World) : Sp := fun vs H Q _ => ∃ (c : V) (ns : List Int) (a : Int), vs = [c, .int a] ∧ Code K H c ns ∧ By ns ∧ ∀ v H', Same H H' → Pair2 H' v (behind ns a) (tgt ns a) → Q v H'
def sp_is_call (K : PySem.W.Frag) (_ : World) : Sp := fun vs H Q _ => ∃ (c : V) (ns : List Int) (a : Int), vs = [c, .int a] ∧ Code K H c ns ∧ By ns ∧ ∀ H', Same H H' → Q (.bl (isCall ns a)) H'
/-- the places that a row goes on to -/
def Goes (ns : List Int) (a : Int) (L : List Int) : Prop := L.Pairwise (· < ·) ∧ ∀ k, k ∈ L ↔ (behind ns a = some k ∨ (isCall ns a = false ∧ tgt ns a = some k))
def sp_goes_on (K : PySem.W.Frag) (_ : World) : Sp := fun vs H Q _ => ∃ (c : V) (ns : List Int) (a : Int), vs = [c, .int a] ∧ Code K H c ns ∧ By ns ∧ ∀ p H' L, Same H H' → H p = none → H' p = some (.lst (L.map V.int)) → Goes ns a L → Q (.ref p) H'
def sp_law_onward (K : PySem.W.Frag) (_ : World) : Sp := fun vs H Q _ => ∃ (t a : Addr) (ns : List Int) (i : Int), vs = [.ref t, .ref a, .int i] ∧ Tab H t tabT ∧ SqL K H a (ns.map V.int) ∧ By ns ∧ ns.length ≤ 100000 ∧ ∀ v H', Same H H' → Pair2 H' v (behind ns i) (tgt ns i) → Q v H'
def sp_law_is_call (K : PySem.W.Frag) (_ : World) : Sp := fun vs H Q _ => ∃ (t a : Addr) (ns : List Int) (i : Int), vs = [.ref t, .ref a, .int i] ∧ Tab H t tabT ∧ SqL K H a (ns.map V.int) ∧ By ns ∧ ns.length ≤ 100000 ∧ ∀ H', Same H H' → Q (.bl (isCall ns i)) H'
theorem len_behind_and_target {K : PySem.W.Frag} {w : World} {vs : List V} {H : Hp} {Q : VK} {E : XK} (h : sp_behind_and_target K w vs H Q E) : vs.length = 2 := by
  obtain ⟨_, _, _, rfl, _⟩ := h
  rfl
theorem len_is_call {K : PySem.W.Frag} {w : World} {vs : List V} {H : Hp} {Q : VK} {E : XK} (h : sp_is_call K w vs H Q E) : vs.length = 2 := by
  obtain ⟨_, _, _, rfl, _⟩ := h
  rfl
theorem len_goes_on {K : PySem.W.Frag} {w : World} {vs : List V} {H : Hp} {Q : VK} {E : XK} (h : sp_goes_on K w vs H Q E) : vs.length = 2 := by
  obtain ⟨_, _, _, rfl, _⟩ := h
  rfl
theorem len_law_onward {K : PySem.W.Frag} {w : World} {vs : List V} {H : Hp} {Q : VK} {E : XK} (h : sp_law_onward K w vs H Q E) : vs.length = 3 := by
  obtain ⟨_, _, _, _, rfl, _⟩ := h
  rfl
theorem len_law_is_call {K : PySem.W.Frag} {w : World} {vs : List V} {H : Hp} {Q : VK} {E : XK} (h : sp_law_is_call K w vs H Q E) : vs.length = 3 := by
  obtain ⟨_, _, _, _, rfl, _⟩ := h
  rfl
/-- the same members, rising: the same list -/
theorem sorted_uniq : ∀ {L M : List Int}, L.Pairwise (· < ·) → M.Pairwise (· < ·) → (∀ k, k ∈ L ↔ k ∈ M) → L = M
  | [], [], _, _, _ => rfl
  | [], m :: M, _, _, h => by
    have := (h m).mpr List.mem_cons_self
    cases this
  | l :: L, [], _, _, h => by
    have := (h l).mp List.mem_cons_self
    cases this
  | l :: L, m :: M, hl, hm, h => by
    obtain ⟨l1, l2⟩ := List.pairwise_cons.mp hl
    obtain ⟨m1, m2⟩ := List.pairwise_cons.mp hm
    have e : l = m := by
      rcases List.mem_cons.mp ((h l).mp List.mem_cons_self) with z | z
      · exact z
      · rcases List.mem_cons.mp ((h m).mpr List.mem_cons_self) with y | y
        · exact y.symm
        · have := m1 l z
          have := l1 m y
          omega
    subst e
    rw [sorted_uniq l2 m2 fun k => ?_]
    constructor
    · intro hk
      rcases List.mem_cons.mp ((h k).mp (List.mem_cons_of_mem _ hk)) with z | z
      · have := l1 k hk
        omega
      · exact z
    · intro hk
      rcases List.mem_cons.mp ((h k).mpr (List.mem_cons_of_mem _ hk)) with z | z
      · have := m1 k hk
        omega
      · exact z
theorem Goes.uniq {ns : List Int} {a : Int} {L M : List Int} (h : Goes ns a L) (g : Goes ns a M) : L = M := sorted_uniq h.1 g.1 fun k => (h.2 k).trans (g.2 k).symm
end Rl
namespace Rl
open PySem PySem.Spec PyProof.Rows L2 NdefX LamX
/-! ## a def within a def, handed to another def: the captured name's cell is tracked while that one runs -/
/-- at c stands o, nothing else -/
def CellO (c : Addr) (o : Obj) : HO := .ext fun h => h.get? c = some o
theorem cellO_ok {P : Program} {w : World} {H : Hp} {h : Heap} {c : Addr} {o : Obj} (g : h.get? c = some o) : ObjOk P w H h c (CellO c o) := ⟨g, ⟨o, g⟩, fun _ _ z st => st o z⟩
theorem cellO_at {P : Program} {w : World} {H : Hp} {h : Heap} {c : Addr} {o : Obj} (x : HOk P w H h) (e : H c = some (CellO c o)) : h.get? c = some o := (x c _ e).1
theorem but_of {c b : Addr} {H : Hp} {v : HO} (q : but c H b = some v) : b ≠ c ∧ H b = some v := by
  unfold but at q
  split at q
  · cases q
  · exact ⟨‹_›, q⟩
theorem upd_of {c b : Addr} {H : Hp} {v x : HO} (q : upd H c x b = some v) : (b = c ∧ v = x) ∨ (b ≠ c ∧ H b = some v) := by
  by_cases e : b = c
  · rw [e, upd_same] at q
    exact .inl ⟨e, (Option.some.inj q).symm⟩
  · rw [upd_ne e] at q
    exact .inr ⟨e, q⟩
/-- an entry that is no cell's -/
theorem but_keep {c b : Addr} {H : Hp} {v : HO} {o : Obj} (e : H c = some (CellO c o)) (n : ∀ φ, v ≠ .ext φ) (z : H b = some v) : but c H b = some v :=
  but_get (fun y => n _ (Option.some.inj (z.symm.trans (y ▸ e)))) z
section
variable {P : Program} {w : World} {H H' : Hp} {h h' : Heap} {c : Addr} {o : Obj} {fs ex : List Addr}
theorem hok_but (x : HOk P w H h) (e : H c = some (CellO c o)) : HOk P w (but c H) h := fun b u q =>
  (x b u (but_of q).2).stay (fun _ _ _ z => z) (fun _ z => but_keep e (fun _ y => nomatch y) z) fun _ _ z => but_keep e (fun _ y => nomatch y) z
theorem hok_cell (x : HOk P w H h) (n : H c = none) (g : h.get? c = some o) : HOk P w (upd H c (CellO c o)) h := fun b u q => by
  rcases upd_of q with ⟨rfl, rfl⟩ | ⟨_, z⟩
  · exact cellO_ok g
  · exact (x b u z).stay (fun _ _ _ y => y) (fun _ y => upd_get n y) fun _ _ y => upd_get n y
/-- the cell is given back to its frame -/
theorem un_back (u : Un fs ex (upd H c (CellO c o)) H' h h') (n : H c = none) (g : h.get? c = some o) (e : H' c = some (CellO c o)) (x : HOk P w H' h') : Un fs ex H (but c H') h h' := by
  have same : h'.get? c = some o := cellO_at x e
  have none' : ∀ b, b ≠ c → H b = none → upd H c (CellO c o) b = none := fun b nb q => by rw [upd_ne nb]; exact q
  refine ⟨fun b v gb q nf nx => ?_, fun b v gb q hf nx => ?_, fun b v gb q nx => ?_, u.there, fun b xs q => ?_, fun b v y q => ?_, fun b ps q => ?_⟩
  · by_cases hb : b = c
    · rw [hb] at gb ⊢
      rw [same, ← g, gb]
    · exact u.keep b v gb (none' b hb q) nf nx
  · by_cases hb : b = c
    · rw [hb] at gb ⊢
      have ev : v = o := Option.some.inj (gb.symm.trans g)
      exact ⟨o.slots, by rw [ev]; exact same⟩
    · exact u.slot b v gb (none' b hb q) hf nx
  · by_cases hb : b = c
    · rw [hb]
      exact but_none
    · have z := u.free b v gb (none' b hb q) nx
      unfold but
      rw [if_neg hb]
      exact z
  · exact but_keep e (fun _ y => nomatch y) (u.tups b xs (upd_get n q))
  · exact but_keep e (fun _ y => nomatch y) (u.frzs b v y (upd_get n q))
  · obtain ⟨more, z⟩ := u.tbls b ps (upd_get n q)
    exact ⟨more, but_keep e (fun _ y => nomatch y) z⟩
/-- the cell goes on being tracked -/
theorem un_held (u : Un fs ex (but c H) H' h h') (e : H c = some (CellO c o)) (g : h.get? c = some o) (nf : c ∉ fs) (nx : c ∉ ex) : h'.get? c = some o ∧ H' c = none ∧ Un fs ex H (upd H' c (CellO c o)) h h' := by
  have k1 : h'.get? c = some o := u.keep c o g but_none nf nx
  have k2 : H' c = none := u.free c o g but_none nx
  have none' : ∀ b, H b = none → b ≠ c ∧ but c H b = none := fun b q => by
    have hb : b ≠ c := fun z => by
      rw [z, e] at q
      cases q
    unfold but
    rw [if_neg hb]
    exact ⟨hb, q⟩
  refine ⟨k1, k2, fun b v gb q => u.keep b v gb (none' b q).2, fun b v gb q => u.slot b v gb (none' b q).2, fun b v gb q x => ?_, u.there, fun b xs q => ?_, fun b v y q => ?_, fun b ps q => ?_⟩
  · rw [upd_ne (none' b q).1]
    exact u.free b v gb (none' b q).2 x
  · exact upd_get k2 (u.tups b xs (but_keep e (fun _ y => nomatch y) q))
  · exact upd_get k2 (u.frzs b v y (but_keep e (fun _ y => nomatch y) q))
  · obtain ⟨more, z⟩ := u.tbls b ps (but_keep e (fun _ y => nomatch y) q)
    exact ⟨more, upd_get k2 z⟩
end
theorem same_put {H H2 : Hp} {c : Addr} {x : HO} (e : H c = some x) (s : Same (but c H) H2) : Same H (upd H2 c x) := fun b v q => by
  by_cases hb : b = c
  · rw [hb] at q ⊢
    rw [upd_same, ← e, q]
  · rw [upd_ne hb]
    exact s b v (but_get hb q)
section
variable {X : Cx} {pins : List (Addr × Obj)} {σ : L2.St} {H : Hp} {s : Shared}
/-- cells made by this frame lie behind its names -/
theorem cell_out (I : Inv X pins σ H s) {c : Addr} (hgt : X.env.locals < c) : X.base.get? c = none ∧ c ∉ frs X.stack := by
  have sz := I.ok.above
  have far : X.s_0.heap.objs.size < c := Nat.lt_of_le_of_lt sz hgt
  refine ⟨?_, fun z => ?_⟩
  · cases q : X.base.get? c with
    | none => rfl
    | some o =>
      exact absurd (Nat.lt_trans far (Nat.lt_of_lt_of_le (Heap.lt_size q) I.ok.bsz)) (Nat.lt_irrefl _)
  · rcases List.mem_cons.mp (I.stkSub c z) with y | y
    · exact absurd (y ▸ hgt) (Nat.lt_irrefl _)
    · obtain ⟨_, o, q, _⟩ := I.ok.funs.mem y
      exact absurd (Nat.lt_trans far (Heap.lt_size q)) (Nat.lt_irrefl _)
/-- x(e, ..), x a def of the top: the name in the slot j stands in the cell c, tracked while the callee runs -/
def tCallC (K : PySem.W.Frag) (c : Addr) (j : Nat) (sp : Sp) (t : TA) : TE := fun σ H Q => t σ H fun vs H1 => ∃ a, σ[j]? = some (some (.ref a)) ∧ ∀ o : Obj, o.data = .cell (some (.ref a)) → K.lookup c = none → H1 c = none → sp vs (upd H1 c (CellO c o)) (fun v H2 => H2 c = some (CellO c o) ∧ Q v (but c H2)) E0
theorem pe_callC {k k' j : Nat} {x y : Str} {sp : Sp} {c : Addr} {t : TA} {e : Expr} {es : List Expr} {p pos : Pos} (F : Cl X.prog X.w X.K X.mg X.base k x sp) (hr : Room k' X.A) (hk : k ≤ k') (hg : Gl X x) (hN : X.N[j]? = some y) (hy : X.env.scope.names.lookup y = some .cell) (hc : X.env.cells.lookup y = some c) (hgt : X.env.locals < c) (ha : PA X (e :: es) t)
    (hdb : (x == ("__debug__" : Str)) = false := by decide) (he : starEach (e :: es) X.env = (false, eval e X.env) :: starEach es X.env := by rfl) (hpl : (backTo pos (starEach es X.env)).any (·.1) = false := by rfl) :
    PE X (.Call (.Name x p) (e :: es) [] pos) (tCallC X.K c j sp t) := by
  obtain ⟨f, fd, ps, Fn, hm, kp, b⟩ := F.ex
  refine ⟨fun pins s σ H Q I h => wpAny_Call_Name_kw (ld_glob I hg hm ?_ hdb)⟩
  refine PySem.W.callWith_K (h₀ := X.base) I.ok.mod.kin kp (thn (ha.run pos pins s σ H _ I h) fun us s1 ⟨vs, H1, I1, r, a, hs, q⟩ => ⟨I1.kIn, ?_⟩) he hpl
  -- the cell
  obtain ⟨m, _, look⟩ := I1.loc
  obtain ⟨u, ru, lk⟩ := look j y (.ref a) hN hs (.inr (.inl hy))
  obtain rfl : u = Value.ref a := ru
  obtain ⟨o, go, od⟩ : s1.heap.IsCell c (some (.ref a)) := by
    rcases lk with ⟨z, _⟩ | ⟨_, c', hc', z⟩
    · have z' : X.env.scope.names.lookup y = some .local := z
      rw [hy] at z'
      cases z'
    · rw [hc] at hc'
      cases hc'
      exact z
  have n1 : H1 c = none := I1.freeC y c hc
  obtain ⟨nb, nf⟩ := cell_out I1 hgt
  have e0 := I1.env0
  have e1 : Env0 X.prog X.w X.K X.mg X.base X.A X.stack s1 (upd H1 c (CellO c o)) := by
    refine ⟨e0.frames, e0.mod, fun b v z => ?_, e0.bsz, e0.funs, fun b z => ?_, hok_cell e0.hok n1 go, e0.bare⟩
    · have hb : b ≠ c := fun y => by
        rw [y, nb] at z
        cases z
      rw [upd_ne hb]
      exact e0.bs b v z
    · rw [upd_ne fun (y : b = c) => nf (y ▸ z)]
      exact e0.frf b z
  have nk : X.K.lookup c = none := by
    cases z : X.K.lookup c with
    | none => rfl
    | some v =>
      have y := I1.ok.mod.kin c v z
      rw [nb] at y
      cases y
  have sp1 := q o od nk n1
  have hl := Fn.len _ _ _ _ sp1
  have bd : BindsTo s1 fd ⟨us, []⟩ (ps.zip us) := by
    have z := b s1 us I1.kIn (by rw [List.append_nil, ← r.length]; exact hl)
    rw [List.append_nil] at z
    exact z
  refine wpAny_call (codeAny_mono (Fn.run X.A X.stack s1 _ ⟨us, []⟩ us vs _ _ (hr.mono hk) e1 bd r sp1) fun r s' hq => ?_)
  cases r with
  | error e => exact hq.elim
  | ok fl =>
    cases fl with
    | ret u =>
      obtain ⟨v, H', os, bare, un, hok, rv, k1, k2⟩ := hq
      exact I1.after ⟨v, but c H', os, bare, un_back un n1 go k1 hok, hok_but hok k1, rv, k2⟩
    | next => exact False.elim hq
    | brk => exact False.elim hq
    | cont => exact False.elim hq
/-- x(e, ..), the slot i holds a def made elsewhere whose one captured name stands in a tracked cell; T: which ones there may be, with what they promise -/
def tCallH (i : Nat) (y : Str) (T : NF → (Addr → Sp) → Prop) (t : TA) : TE := fun σ H Q => ∃ (f : Addr) (F : NF) (sp : Addr → Sp) (c : Addr) (o : Obj) (a : Addr), σ[i]? = some (some (.ref f)) ∧ T F sp ∧ F.cl = [(y, c)] ∧ o.data = .cell (some (.ref a)) ∧ H f = some (FnO f F) ∧
  t σ H fun vs H1 => H1 f = some (FnO f F) ∧ H1 F.c = some (CodeO F.c F.qual) ∧ H1 c = some (CellO c o) ∧ f ≠ c ∧ F.c ≠ c ∧ sp a vs (but c H1) (fun v H2 => H2 c = none → Q v (upd H2 c (CellO c o))) E0
/-- a nested def's promise, its captured name's object told -/
abbrev spCap (sp : Addr → Sp) : List (Option V) → Sp := fun ws vs H Q E => ∃ a, ws = [some (.ref a)] ∧ sp a vs H Q E
theorem pe_callH {k k' i : Nat} {x y : Str} {T : NF → (Addr → Sp) → Prop} {ps : List Str} {t : TA} {e : Expr} {es : List Expr} {p pos : Pos} (Fn : ∀ f F sp, T F sp → NOk X.prog X.w X.K X.mg X.base CX0 k f F ps [y] (spCap sp)) (hr : Room k' X.A) (hk : k ≤ k') (hN : X.N[i]? = some x) (hv : Vis X.env.scope x) (ha : PA X (e :: es) t)
    (hdb : (x == ("__debug__" : Str)) = false := by decide) (hcd : (x == ("__classdict__" : Str)) = false := by decide)
    (he : starEach (e :: es) X.env = (false, eval e X.env) :: starEach es X.env := by rfl) (hpl : (backTo pos (starEach es X.env)).any (·.1) = false := by rfl) :
    PE X (.Call (.Name x p) (e :: es) [] pos) (tCallH i y T t) := by
  refine ⟨fun pins s σ H Q I h => ?_⟩
  obtain ⟨f, F, sp, c, o, a, hs, hT, hcl, od, hf, ht⟩ := h
  have var := (pe_var (X := X) (i := i) (pos := p) hN hv hdb hcd).run pins s σ H (fun v H1 => v = .ref f ∧ H1 = H) I ⟨.ref f, hs, rfl, rfl⟩
  refine wpAny_Call_Name_kw (thn var fun u s1 ⟨v, H1, I1, r1, ev, eH⟩ => ?_)
  subst eH
  subst ev
  obtain rfl : u = Value.ref f := r1
  refine PySem.W.callWith_F (first := []) (fnAt_of I1 hf) (thn (ha.run pos pins s1 σ H1 _ I1 ht) fun us s2 ⟨vs, H2, I2, r, h1, h2, h3, n1, n2, q⟩ => ⟨fnAt_of I2 h1, ?_⟩) he hpl
  show wpAny _ _ (call (.ref f) us) _ _ _
  have e0 := I2.env0
  have go : s2.heap.get? c = some o := cellO_at e0.hok h3
  have nf : c ∉ frs X.stack := fun z => by
    have y := e0.frf c z
    rw [h3] at y
    cases y
  have lt : ∀ b, H2 b = none → but c H2 b = none := fun b z => by
    unfold but
    split
    · rfl
    · exact z
  have e1 : Env0 X.prog X.w X.K X.mg X.base X.A X.stack s2 (but c H2) := ⟨e0.frames, e0.mod, fun b v z => ⟨(e0.bs b v z).1, lt b (e0.bs b v z).2⟩, e0.bsz, e0.funs, fun b z => lt b (e0.frf b z), hok_but e0.hok h3, e0.bare⟩
  have one : ∀ z d, F.cl.lookup z = some d → z = y ∧ d = c := fun z d g => by
    rw [hcl] at g
    have m := PySem.mem_of_lookup g
    have m2 := List.mem_singleton.mp m
    cases m2
    exact ⟨rfl, rfl⟩
  have C : CellsAt F.cl [y] [some (.ref a)] s2.heap (but c H2) := by
    refine ⟨rfl, fun z d g => ?_, fun z1 z2 d g1 g2 => (one z1 d g1).1.trans (one z2 d g2).1.symm, fun i z g => ?_⟩
    · rw [(one z d g).2]
      exact ⟨but_none, _, o, go, od⟩
    · cases i with
      | succ i => cases g
      | zero =>
        obtain rfl : y = z := Option.some.inj g
        refine ⟨c, by rw [hcl]; exact List.lookup_cons_self, fun v ev => ⟨.ref a, ?_, o, go, od⟩⟩
        have e2 : V.ref a = v := Option.some.inj (Option.some.inj ev)
        rw [← e2]
        rfl
  refine wpAny_call (codeAny_mono ((Fn f F sp hT).run X.A X.stack s2 _ us vs _ _ _ (hr.mono hk) e1 (but_get n1 h1) (but_get n2 h2) C r ⟨a, rfl, q⟩) fun r s' hq => ?_)
  cases r with
  | error e => exact hq.elim
  | ok fl =>
    cases fl with
    | ret u =>
      obtain ⟨v, H', os, bare, un, hok, rv, k1⟩ := hq
      obtain ⟨u1, u2, u3⟩ := un_held un h3 go nf (fun z => by cases z)
      exact I2.after ⟨v, _, os, bare, u3, hok_cell hok u2 u1, rv, k1 u2⟩
    | next => exact False.elim hq
    | brk => exact False.elim hq
    | cont => exact False.elim hq
end
/-! ## a def's body, its code object known by the def's name -/
section
variable {K : PySem.W.Frag} {P : Program} {w : World} {base : Heap} {mg : Str → Option Value}
theorem cl_ofC {x : Str} {st : Stmt} {fd : FuncData} {N ps : List Str} {k : Nat} {sp : Sp} (D : FnP K x st (He.fAd K (x, none)) fd) (hm : mg x = some (.ref (He.fAd K (x, none)))) (hb : Binds K fd ps []) (S : FnScope N ps (defScope st)) (len : ∀ vs H Q E, sp vs H Q E → vs.length = ps.length)
    (hbody : ∀ (A : Around) (outer : List PySem.Env) (s : Shared) (H : Hp) (vs : List V) (Q : VK) (E : XK), Room k (A.deeper (envOfC x (defScope st) s.heap.objs.size (He.fAd K (x, none)) (.ref (He.codeOf K (x, none))))) → sp vs H Q E →
      ∃ t, PSs (cxOf CX0 P w K mg base N x (defScope st) (He.fAd K (x, none)) (.ref (He.codeOf K (x, none))) A outer s H E) (defBody st) t ∧ t { nx := fun _ H' => Q .non H', rt := Q } (start N vs) H) : Cl P w K mg base (k + 1) x sp := by
  refine ⟨_, fd, ps, ?_, hm, D.kp, hb⟩
  obtain ⟨oc, od, dV, kV, doc, pm, an, cdv, ct, osl, e, lk, hcd, _, _⟩ := D.ex
  obtain ⟨c, ec⟩ := He.codeIn_ref hcd
  have e1 : He.codeOf K (x, none) = c := He.codeOf_eq lk (by rw [e]; exact ec)
  rw [e1] at hbody
  subst ec e
  exact fn_of lk hcd S len fun A outer s H vs Q E hr hsp => hbody A outer s H vs Q E hr hsp
end
section
variable {X : Cx}
/-- def name(..): .. in a def's body -/
theorem ps_ndefW {st : Stmt} {T : List NTab} {nm : Nat → Nat → Str} {c P : Addr} {name q : Str} {cl : List (Str × Addr)} {pos : Pos} {i : Nat} (hq : X.env.qual ++ name = q) (hcl : cloFrom X.env.cells (C8.fnScope st).names [] = cl)
    (hst : st = .FunctionDef name (C8.fnArgs st) (C8.fnBody st) [] none [] (C8.fnScope st) none name pos) (TB : TabB X.base X.mg c P) (hcode : X.env.code = .ref c) (hm : (P, nm) ∈ T) (hn : nm pos.line pos.col = q) (hu : ∀ p ∈ T, p.1 = P → p.2 = nm) (hfr : ndefB X.env.scope (C8.fnScope st) [] = true)
    (hd0 : (C8.fnArgs st).defaults = []) (hk0 : (C8.fnArgs st).kw_defaults = []) (ha : annTrees (C8.fnArgs st) none X.env = []) (hN : X.N.Nodup) (hi : X.N[i]? = some name) (hx : Loc X.env.scope name) (hf : X.fn name = true ∨ X.env.scope.names.lookup name = some .local) :
    PS X st (tNdef T i (NF.of st name q cl)) := by
  subst hq hcl
  exact ps_ndefS hst TB hcode hm hn hu (ndef_free hfr) hd0 hk0 ha hN hi hx hf
end
/-! ## sorted(d), d a dict with keys that are ints: any number of them -/
def rSortedD : List V → Hp → VK → Prop := fun xs H Q => ∃ (a : Addr) (kvs : List (Key × V)) (ks : List Int), xs = [.ref a] ∧ H a = some (.dK kvs) ∧ kvs.map (·.1) = ks.map Sum.inl ∧
  ∀ (ys : List Int) (p : Addr), ys.Perm ks → ys.Pairwise (· ≤ ·) → H p = none → Q (.ref p) (upd H p (.lst (ys.map V.int)))
section
variable {X : Cx}
theorem keys_ints {P : Program} {w : World} {ks : List Int} {vs : List (Key × Value)} (hk : vs.map (·.1) = ks.map Sum.inl) {acc : List Value} (hl : acc.length = vs.length) (ha : ∀ (j : Nat) (v : Value), acc[j]? = some v → ∃ (k : Key) (x : Value), vs[j]? = some (k, x) ∧ (mixKind P w).is k v = true) : IntsAre acc ks := by
  have hlk : vs.length = ks.length := by simpa using congrArg List.length hk
  refine ints_each (hl.trans hlk) fun j v e => ?_
  obtain ⟨k, x, e1, e2⟩ := ha j v e
  have e3 : (ks.map (Sum.inl : Int → Key))[j]? = some k := by rw [← hk, List.getElem?_map, e1]; rfl
  rw [List.getElem?_map] at e3
  obtain ⟨n, hn, rfl⟩ := Option.map_eq_some_iff.mp e3
  rcases keyIs_shape (show keyIs (Sum.inl n) v = true from e2) with ⟨i, t, y1, y2⟩ | ⟨_, _, y1, _⟩
  · cases y1
    exact ⟨n, t, hn, y2⟩
  · cases y1
theorem cr_sortedD (calm : X.calm = true) : CallR X (.builtin "sorted") rSortedD := by
  intro pins s σ H xs us Q I r ⟨a, kvs, ks, ex, hd, hks, q⟩
  subst ex
  rw [Vals.ref1 r]
  obtain ⟨z, lo, vs, rel, dd⟩ := I.hok a _ hd
  obtain ⟨ep, at'⟩ := dd.dictAt
  have e1 : vs.map (·.1) = ks.map Sum.inl := rel.keys.symm.trans hks
  have e2 : kvs.length = vs.length := by simpa using congrArg List.length rel.keys
  have vz : vs.length ≤ sizeLine := e2 ▸ z
  refine Calls.call_function_entry kind_sorted plain_sorted entry_sorted (args_sorted1 _) ?_
  unfold Builtin.«sorted»
  refine wpAny_bind (m := checkCount "sorted" 1 1 _) (wpAny_pure ?_)
  refine wpAny_bind (PySem.W.kdu_collect (PySem.W.kdl_dict (knd := mixKind X.prog X.w) lo) (I.ok.hd calm) at' vz fun h1 tk acc kp got => ?_)
  have al : acc.toList.length = vs.length := by rw [Array.length_toList]; exact got.1
  have isI : IntsAre acc.toList ks := keys_ints e1 al fun j v e => got.2 j v (by rw [← Array.getElem?_toList]; exact e)
  have sz : acc.toList.length ≤ sizeLine := al ▸ vz
  have I1 : Inv X pins σ H { s with heap := h1, toks := tk } := I.kept kp
  refine wpAny_bind (wpAny_newList ?_ sz)
  have top : (h1.push (seqObj "list" acc.toList.toArray 0)).get? h1.objs.size = some (seqObj "list" acc.toList.toArray 0) := Heap.get?_push_size _ rfl
  show wpAny _ _ _ _ _ { s with heap := h1.push (seqObj "list" acc.toList.toArray 0), toks := tk }
  refine wpAny_bind (wpAny_holding (wpAny_call_entry slot_list_sort ⟨_, top, rfl⟩ entry_list_sort (SrtO.list_sort_ord (s := { s with heap := h1.push (seqObj "list" acc.toList.toArray 0), toks := tk }) SrtO.swo_int top sz (fun two => SrtO.ints_sortable isI two) fun out o1 o2 => ⟨_, rfl, ?_⟩) (args_list_sort _)))
  obtain ⟨k1, k2, k3⟩ := SrtO.ints_out isI o1 o2
  obtain ⟨n, hn⟩ := sortedHeap_at (vs := acc.toList) (out := out.toArray) top
  have zl : ((out.map SrtO.iv).map V.int).length ≤ sizeLine := by
    rw [List.length_map, k2.length_eq, ← isI.length]
    exact sz
  refine wpAny_pure ⟨_, rfl, .ref h1.objs.size, _, I1.laid (t' := tk) (o := .lst ((out.map SrtO.iv).map V.int)) (fun b u e => ?_) (Nat.le_refl _) ⟨zl, out, n, vals_of_ints k1, hn⟩, rfl, q _ _ k2 k3 (I1.hok.fresh (Nat.le_refl _))⟩
  have lb : b < h1.objs.size := Heap.lt_size e
  rw [sortedHeap_old (Nat.ne_of_lt lb) (Nat.lt_of_lt_of_eq (Nat.lt_succ_of_lt lb) (size_push' ..).symm)]
  exact Heap.get?_push_of_some _ e
end
end Rl
namespace Rl
open PySem PySem.Spec PyProof.Rows L2 NdefX LamX
/-! ## all places that are gone to -/
/-- from a on, by N -/
inductive Rch (N : Int → Int → Prop) (a : Int) : Int → Prop
  | here : Rch N a a
  | on {x k : Int} : Rch N a x → N x k → Rch N a k
/-- what all_from has at a turn: found ones, waiting ones -/
structure AF (N : Int → Int → Prop) (a : Int) (ks ws : List Int) : Prop where
  nd : ks.Nodup
  fst : a ∈ ks
  sub : ∀ k ∈ ws, k ∈ ks
  clo : ∀ k ∈ ks, k ∈ ws ∨ ∀ j, N k j → j ∈ ks
  rch : ∀ k ∈ ks, Rch N a k
/-- amid a turn: x was taken, the first i of L are done -/
structure AFi (N : Int → Int → Prop) (a : Int) (ks ws : List Int) (x : Int) (L : List Int) (i : Nat) : Prop where
  nd : ks.Nodup
  fst : a ∈ ks
  sub : ∀ k ∈ ws, k ∈ ks
  clo : ∀ k ∈ ks, k ∈ ws ∨ k = x ∨ ∀ j, N k j → j ∈ ks
  rch : ∀ k ∈ ks, Rch N a k
  xin : x ∈ ks
  don : ∀ k ∈ L.take i, k ∈ ks
section
variable {N : Int → Int → Prop} {a x : Int} {ks ws L : List Int} {i : Nat}
theorem AF.start : AF N a [a] [a] := ⟨by simp, List.mem_singleton.mpr rfl, fun _ h => h, fun _ h => .inl h, fun k h => by
  rw [List.mem_singleton.mp h]
  exact .here⟩
theorem AF.take (h : AF N a ks ws) (hx : ws[ws.length - 1]? = some x) : AFi N a ks ws.dropLast x L 0 := by
  have hm : x ∈ ws := List.mem_of_getElem? hx
  have hs : ∀ k ∈ ws, k ∈ ws.dropLast ∨ k = x := fun k hk => by
    obtain ⟨j, hj⟩ := List.mem_iff_getElem?.mp hk
    have lj : j < ws.length := (List.getElem?_eq_some_iff.mp hj).1
    by_cases e : j = ws.length - 1
    · rw [e, hx] at hj
      exact .inr (Option.some.inj hj).symm
    · refine .inl (List.mem_iff_getElem?.mpr ⟨j, ?_⟩)
      rw [List.getElem?_dropLast, if_pos (by omega)]
      exact hj
  refine ⟨h.nd, h.fst, fun k hk => h.sub k ((List.dropLast_sublist ws).subset hk), fun k hk => ?_, h.rch, h.sub x hm, fun k hk => by simp at hk⟩
  rcases h.clo k hk with z | z
  · rcases hs k z with y | y
    · exact .inl y
    · exact .inr (.inl y)
  · exact .inr (.inr z)
theorem AFi.old {k : Int} (h : AFi N a ks ws x L i) (hk : L[i]? = some k) (m : k ∈ ks) : AFi N a ks ws x L (i + 1) :=
  ⟨h.nd, h.fst, h.sub, h.clo, h.rch, h.xin, fun j hj => by
    rw [List.take_add_one, hk] at hj
    rcases List.mem_append.mp hj with z | z
    · exact h.don j z
    · rw [List.mem_singleton.mp z]
      exact m⟩
theorem AFi.new {k : Int} (h : AFi N a ks ws x L i) (hk : L[i]? = some k) (m : k ∉ ks) (n : N x k) : AFi N a (ks ++ [k]) (ws ++ [k]) x L (i + 1) := by
  have inl : ∀ j, j ∈ ks → j ∈ ks ++ [k] := fun j hj => List.mem_append_left _ hj
  refine ⟨?_, inl _ h.fst, fun j hj => ?_, fun j hj => ?_, fun j hj => ?_, inl _ h.xin, fun j hj => ?_⟩
  · refine List.nodup_append.mpr ⟨h.nd, by simp, fun u hu v hv e => ?_⟩
    rw [List.mem_singleton.mp hv] at e
    exact m (e ▸ hu)
  · rcases List.mem_append.mp hj with z | z
    · exact inl _ (h.sub j z)
    · exact List.mem_append_right _ z
  · rcases List.mem_append.mp hj with z | z
    · rcases h.clo j z with y | y | y
      · exact .inl (List.mem_append_left _ y)
      · exact .inr (.inl y)
      · exact .inr (.inr fun l hl => inl _ (y l hl))
    · exact .inl (List.mem_append_right _ z)
  · rcases List.mem_append.mp hj with z | z
    · exact h.rch j z
    · rw [List.mem_singleton.mp z]
      exact .on (h.rch x h.xin) n
  · rw [List.take_add_one, hk] at hj
    rcases List.mem_append.mp hj with z | z
    · exact inl _ (h.don j z)
    · exact List.mem_append_right _ z
theorem AFi.done (h : AFi N a ks ws x L L.length) (hL : ∀ k, k ∈ L ↔ N x k) : AF N a ks ws := by
  refine ⟨h.nd, h.fst, h.sub, fun k hk => ?_, h.rch⟩
  rcases h.clo k hk with y | y | y
  · exact .inl y
  · refine .inr fun j hj => h.don j ?_
    rw [List.take_length]
    rw [y] at hj
    exact (hL j).mpr hj
  · exact .inr y
theorem AF.all (h : AF N a ks []) (k : Int) : k ∈ ks ↔ Rch N a k := by
  refine ⟨h.rch k, fun r => ?_⟩
  induction r with
  | here => exact h.fst
  | on _ n ih =>
    rcases h.clo _ ih with z | z
    · cases z
    · exact z _ n
/-- no more than M of them -/
theorem len_below : ∀ {M : Nat} {ks : List Int}, ks.Nodup → (∀ k ∈ ks, 0 ≤ k ∧ k < (M : Int)) → ks.length ≤ M
  | 0, ks, _, h => by
    cases ks with
    | nil => exact Nat.le_refl _
    | cons k r =>
      have := h k List.mem_cons_self
      omega
  | M + 1, ks, nd, h => by
    have ih := len_below (M := M) (nd.erase (M : Int)) fun k hk => by
      have h1 := h k (List.mem_of_mem_erase hk)
      have h2 : k ≠ (M : Int) := fun e => by
        rw [e] at hk
        exact nd.not_mem_erase hk
      omega
    rw [List.length_erase] at ih
    split at ih <;> omega
theorem sorted_strict {ys : List Int} (p : ys.Perm ks) (o : ys.Pairwise (· ≤ ·)) (nd : ks.Nodup) : ys.Pairwise (· < ·) := by
  have nd2 : ys.Nodup := p.nodup_iff.mpr nd
  refine (List.pairwise_and_iff.mpr ⟨o, nd2⟩).imp fun ⟨h1, h2⟩ => ?_
  omega
end
/-- all within 0 and M -/
theorem rch_in {N : Int → Int → Prop} {a k : Int} {P : Int → Prop} (h : Rch N a k) (h0 : P a) (hN : ∀ x k, N x k → P k) : P k := by
  cases h with
  | here => exact h0
  | on _ n => exact hN _ _ n
/-- where a row goes on to: behind, its target -/
def NxA (ns : List Int) (a k : Int) : Prop := behind ns a = some k ∨ tgt ns a = some k
def NxG (ns : List Int) (a k : Int) : Prop := behind ns a = some k ∨ (isCall ns a = false ∧ tgt ns a = some k)
end Rl
namespace Rl
open PySem PySem.Spec PyProof.Rows L2
/-! ## steps for while, dicts, lists -/
namespace R
section
variable {K : PySem.W.Frag} {σ : L2.St} {H : Hp} {Q : VK} {t : TS} {nx bk ct : L2.St → Hp → Prop} {rt : VK}
/-- while: what holds at each turn, and how far it is at most -/
theorem whL {c : TT} (W : Nat → L2.St → Hp → Prop) (m0 : Nat) (h0 : W m0 σ H)
    (hs : ∀ m σ H, W m σ H → c σ H fun b H1 => if b = true then ∃ N : L2.St → Hp → Prop, (∀ σ' H', N σ' H' → ∃ m', m' < m ∧ W m' σ' H') ∧ t ⟨N, rt, nx, N⟩ σ H1 else nx σ H1) : tWhile c t ⟨nx, rt, bk, ct⟩ σ H := ⟨W, ⟨m0, h0⟩, hs⟩
theorem bm0 {T : String} {r : V → List V → Hp → VK → Prop} {tk : TE} (q : tk σ H fun x H1 => tyV K T x H1 ∧ r x [] H1 Q) : tBM0 K T r tk σ H Q := q
theorem pop {p : Addr} {ns : List Int} {n : Int} (h : H p = some (.lst (ns.map V.int))) (e : ns[ns.length - 1]? = some n) (q : Q (.int n) (upd H p (.lst (ns.dropLast.map V.int)))) : rPop (.ref p) [] H Q :=
  ⟨p, ns.map V.int, .int n, rfl, rfl, h, by rw [List.length_map, List.getElem?_map, e]; rfl, by rw [← List.map_dropLast]; exact q⟩
theorem clear {p : Addr} {xs : List V} (h : H p = some (.lst xs)) (q : Q .non (upd H p (.lst []))) : rClear (.ref p) [] H Q := ⟨p, xs, rfl, rfl, h, q⟩
theorem dnot {ty td : TE} (q : ty σ H fun y H1 => td σ H1 fun x H2 => ∃ a o, x = .ref a ∧ DGet H2 a y o ∧ Q (.bl (!o.isSome)) H2) : tDNotIn ty td σ H Q := q
theorem dput {ty td tv : TE} (q : tv σ H fun v H1 => td σ H1 fun x H2 => ty σ H2 fun y H3 => ∃ a H4, x = .ref a ∧ DPut H3 a y v H4 ∧ nx σ H4) : sDPut td ty tv ⟨nx, rt, bk, ct⟩ σ H := q
theorem sortedI {p : Addr} {ks : List Int} (h : SqL K H p (ks.map V.int)) (q : ∀ (ys : List Int) (l : Addr), ys.Perm ks → ys.Pairwise (· ≤ ·) → H l = none → Q (.ref l) (upd H l (.lst (ys.map V.int)))) : rSortedI K [.ref p] H Q :=
  ⟨p, ks, rfl, h, q⟩
end
end R
end Rl
namespace Rl
open PySem PySem.Spec PyProof.Rows L2
theorem R.listC {K : PySem.W.Frag} {H : Hp} {c : V} {ns : List Int} {Q : VK} (h : Code K H c ns) (q : ∀ l, H l = none → Q (.ref l) (upd H l (.lst (ns.map V.int)))) : rListA K [c] H Q := by
  obtain ⟨p, rfl, h | h⟩ := h
  · exact R.listL h q
  · exact R.listT h q
end Rl
namespace Rl
open PySem PySem.Spec PyProof.Rows L2 NdefX LamX
/-! ## steps for while, for dicts that keep numbers, for defs within defs -/
/-- a dict of numbers that are seen -/
def dkv (ks : List Int) : List (Key × V) := ks.map fun k => ((Sum.inl k : Key), V.bl true)
theorem dkv_get (ks : List Int) (k : Int) : (valV (dkv ks) (Sum.inl k)).isSome = decide (k ∈ ks) := by
  induction ks with
  | nil => rfl
  | cons j r ih =>
    unfold dkv at ih ⊢
    rw [List.map_cons]
    by_cases e : j = k
    · rw [valV_pos (by rw [e])]
      simp [e]
    · rw [valV_neg (fun z => e (Sum.inl.inj z)), ih]
      have e2 : ¬ k = j := fun z => e z.symm
      simp [e2]
theorem dkv_put {ks : List Int} {k : Int} (h : k ∉ ks) : putK (dkv ks) (Sum.inl k) (V.bl true) = dkv (ks ++ [k]) := by
  rw [putK_new _ (by
    have e := dkv_get ks k
    rw [decide_eq_false h] at e
    exact Option.not_isSome_iff_eq_none.mp (by rw [e]; decide))]
  unfold dkv
  rw [List.map_append]
  rfl
theorem dkv_keys (ks : List Int) : (dkv ks).map (·.1) = ks.map Sum.inl := by
  unfold dkv
  rw [List.map_map]
  rfl
theorem dkv_len (ks : List Int) : (dkv ks).length = ks.length := by
  unfold dkv
  rw [List.length_map]
namespace R
section
variable {K : PySem.W.Frag} {σ : L2.St} {H : Hp} {Q : VK} {t : TS} {nx bk ct : L2.St → Hp → Prop} {rt : VK}
theorem dnotI {p : Addr} {ks : List Int} {k : Int} (h : H p = some (.dK (dkv ks))) (q : Q (.bl (!decide (k ∈ ks))) H) : ∃ a o, V.ref p = .ref a ∧ DGet H a (.int k) o ∧ Q (.bl (!o.isSome)) H :=
  ⟨p, _, rfl, DGet.k (k := Sum.inl k) h, by rw [dkv_get]; exact q⟩
theorem dputI {p : Addr} {ks : List Int} {k : Int} {F : Hp → Prop} (h : H p = some (.dK (dkv ks))) (n : k ∉ ks) (l : ks.length < sizeLine) (q : F (upd H p (.dK (dkv (ks ++ [k]))))) : ∃ a H4, V.ref p = .ref a ∧ DPut H a (.int k) (.bl true) H4 ∧ F H4 :=
  ⟨p, _, rfl, .inl ⟨_, Sum.inl k, h, rfl, by rw [dkv_len]; exact l, rfl⟩, by rw [dkv_put n]; exact q⟩
theorem sortedD {p : Addr} {ks : List Int} (h : H p = some (.dK (dkv ks))) (q : ∀ (ys : List Int) (l : Addr), ys.Perm ks → ys.Pairwise (· ≤ ·) → H l = none → Q (.ref l) (upd H l (.lst (ys.map V.int)))) : rSortedD [.ref p] H Q :=
  ⟨p, _, ks, rfl, h, dkv_keys ks, q⟩
/-- {i: True} -/
theorem disp1 {tk : TE} {i : Int} (hk : ∀ H' (QE : VK), QE (.int i) H' → tk σ H' QE) (q : ∀ p, H p = none → Q (.ref p) (upd (upd H p (.dK [])) p (.dK (dkv [i])))) : tDisp [(tk, tC (.bl true))] σ H Q := fun p hp =>
  hk _ _ ⟨upd_same, [(Sum.inl i, .bl true)], rfl, Nat.le_of_ble_eq_true rfl, q p hp⟩
theorem callC {c : Addr} {j : Nat} {sp : Sp} {ta : TA} (q : ta σ H fun vs H1 => ∃ a, σ[j]? = some (some (.ref a)) ∧ ∀ o : Obj, o.data = .cell (some (.ref a)) → K.lookup c = none → H1 c = none → sp vs (upd H1 c (CellO c o)) (fun v H2 => H2 c = some (CellO c o) ∧ Q v (but c H2)) E0) : tCallC K c j sp ta σ H Q := q
end
end R
/-- the ints among a pair, a new list -/
theorem lcOpts {K : PySem.W.Frag} {σ : L2.St} {H : Hp} {Q : VK} {a : Addr} {j : Nat} (os : List (Option Int)) (h : SqT K H a (os.map optV)) (hl : os.length < 60) (hw : ∀ x, wipe ((wipe σ [j]).set j (some x)) [j] = wipe σ [j]) (hg : ∀ x, ((wipe σ [j]).set j (some x))[j]? = some (some x))
    (q : ∀ D H', H D = none → Same H H' → H' D = some (.lst ((os.filterMap id).map V.int)) → Q (.ref D) H') :
    ∀ D, H D = none → R.LcLoop (Itt K a) (L2.gName j) (tTest (tOp rNotN (tVar j) (tC .non))) (tVar j) [j] σ D H Q := by
  intro D hD
  refine R.lcI walk_tup (fun i H' => Same H H' ∧ H' D = some (.lst (((os.take i).filterMap id).map V.int))) ⟨same_upd hD, upd_same⟩ (fun i H' _ z => SqT.mono z.1 h) ?_ (fun H' z => ?_)
  · rintro i x H1 H' hi ⟨z1, z2⟩ ⟨rfl, hx⟩
    rw [List.length_map] at hi
    rw [List.getElem?_map, List.getElem?_eq_getElem hi] at hx
    obtain rfl : optV os[i] = x := Option.some.inj hx
    have ht : os.take (i + 1) = os.take i ++ [os[i]] := by rw [List.take_add_one, List.getElem?_eq_getElem hi]; rfl
    have hs : (((os.take i).filterMap id).map V.int).length < sizeLine := by
      rw [List.length_map]
      have l1 := List.length_filterMap_le id (os.take i)
      rw [List.length_take] at l1
      exact Nat.lt_of_le_of_lt (m := 60) (by omega) (by decide)
    refine ⟨hw _, ?_⟩
    refine ⟨_, hg _, rfl, ?_⟩
    cases ho : os[i] with
    | none =>
      refine ⟨false, rfl, iteF ⟨z1, ?_⟩⟩
      rw [ht, ho, List.filterMap_append]
      simpa using z2
    | some c =>
      refine ⟨true, rfl, iteT ⟨_, hg _, _, z2, hs, fun b o e => ?_, ?_⟩⟩
      · rw [upd_ne (ne_of_none e hD)]
        exact z1 _ _ e
      · rw [upd_same, ht, ho, List.filterMap_append, List.map_append]
        rfl
  · obtain ⟨z1, z2⟩ := z
    rw [List.length_map, List.take_of_length_le (Nat.le_refl _)] at z2
    exact q D H' hD z1 z2
end Rl
namespace Rl
open PySem PySem.Spec PyProof.Rows L2
/-! ## d.update(another dict), {.. for k in range(n)}, [k for k in range(n) if ..] -/
def rUpdate : V → List V → Hp → VK → Prop := fun x xs H Q => ∃ (a b : Addr) (kvs more : List (Key × V)), x = .ref a ∧ xs = [.ref b] ∧ a ≠ b ∧ H a = some (.dK kvs) ∧ H b = some (.dK more) ∧ kvs.length + more.length ≤ sizeLine ∧ Q .non (upd H a (.dK (mergeK kvs more)))
theorem mergeK_len : ∀ (more kvs : List (Key × V)), (mergeK kvs more).length ≤ kvs.length + more.length
  | [], kvs => Nat.le_refl _
  | p :: r, kvs => by
    have ih := mergeK_len r (putK kvs p.1 p.2)
    have l1 := length_putK kvs p.1 p.2
    show (mergeK (putK kvs p.1 p.2) r).length ≤ _
    rw [List.length_cons]
    omega
theorem mt_update {X : Cx} : MtR X "dict.update" rUpdate := by
  intro pins s σ H x xs v us Q I rx rv ⟨a, b, kvs, more, ex, exs, ne, ha, hb, hz, q⟩
  subst ex exs
  cases rx
  rw [Vals.ref1 rv]
  obtain ⟨_, lo, vs, r1, d1⟩ := dk_of I.hok ha
  obtain ⟨_, lo2, ms, r2, d2⟩ := dk_of I.hok hb
  have total : vs.length + ms.length ≤ sizeLine := by rw [← r1.length, ← r2.length]; exact hz
  refine call_meetsIn PySem.F.slot_dict_update d1.typeIs PySem.F.entry_dict_update (PySem.F.args_dict_update_2 _ _) (meets_dict_update (mixKind X.prog X.w) a b ne lo2) ⟨vs, ms, d1, d2, total, fun h1 d3 _ but => ?_⟩
  have there : ∃ o, h1.get? a = some o := d3.elim fun o z => z.elim fun _ z => z.elim fun _ z => ⟨o, z.1⟩
  exact ⟨.non, _, d_write (t' := s.toks) I (by rw [ha]; exact True.intro) but there (dk_new (Nat.le_trans (mergeK_len more kvs) hz) lo (KV.merge r2 r1) d3), rfl, q⟩
theorem merge_dkv (a : Int) : ∀ (ks : List Int) (kvs : List (Key × V)), (valV (mergeK kvs (dkv ks)) (Sum.inl a)).isSome = ((valV kvs (Sum.inl a)).isSome || decide (a ∈ ks))
  | [], kvs => by
    show (valV kvs (Sum.inl a)).isSome = _
    simp
  | k :: r, kvs => by
    show (valV (mergeK (putK kvs (Sum.inl k) (.bl true)) (dkv r)) (Sum.inl a)).isSome = _
    rw [merge_dkv a r, valV_put]
    by_cases e : a = k
    · rw [if_pos (by rw [e])]
      simp [e]
    · rw [if_neg fun z => e (Sum.inl.inj z)]
      simp [e]
namespace R
theorem update {H : Hp} {Q : VK} {a b : Addr} {kvs more : List (Key × V)} (ne : a ≠ b) (ha : H a = some (.dK kvs)) (hb : H b = some (.dK more)) (hz : kvs.length + more.length ≤ sizeLine) (q : Q .non (upd H a (.dK (mergeK kvs more)))) : rUpdate (.ref a) [.ref b] H Q :=
  ⟨a, b, kvs, more, rfl, rfl, ne, ha, hb, hz, q⟩
theorem tyD {K : PySem.W.Frag} {H : Hp} {p : Addr} {kvs : List (Key × V)} {A : Prop} (h : H p = some (.dK kvs)) (q : A) : tyV K "dict" (.ref p) H ∧ A := ⟨.inr (.inr (.inl ⟨rfl, .inl ⟨kvs, h⟩⟩)), q⟩
/-- the loop of a dict comprehension, behind what is walked -/
def DcLoop (J : It) (g : TG) (tt : TT) (tk tv : TE) (vs : List Nat) (σ : L2.St) (D : Addr) (H : Hp) (Q : VK) : Prop := ∃ W : Nat → Nat → Hp → Prop, (∃ m, W 0 m (upd H D (.dK []))) ∧ ∀ i m H, W i m H →
    (J.stop i H ∧ Q (.ref D) H) ∨ (J.go i H ∧ ∃ Nx : Hp → Prop, (∀ H', Nx H' → ∃ m', m' < m ∧ W (i + 1) m' H') ∧ ∀ x H', J.yld i H x H' → g x (wipe σ vs) H' fun σ2 H2 => wipe σ2 vs = wipe σ vs ∧ tt σ2 H2 fun b H3 =>
      if b = true then tk σ2 H3 fun y H4 => tv σ2 H4 fun z H5 => ∃ kvs k, y = kV k ∧ H5 D = some (.dK kvs) ∧ kvs.length < sizeLine ∧ Nx (upd H5 D (.dK (putK kvs k z))) else Nx H3)
theorem dc {σ : L2.St} {H : Hp} {Q : VK} {wi : TI} {g : TG} {tt : TT} {tk tv : TE} {vs : List Nat} (q : wi σ H fun J H1 => ∀ D, H1 D = none → DcLoop J g tt tk tv vs σ D H1 Q) : tDc wi g tt tk tv vs σ H Q := q
/-- {f(k): True for k in range(m)}, no two keys alike -/
theorem dcR {σ : L2.St} {H : Hp} {Q : VK} {tk : TE} {j m : Nat} (f : Nat → Int) (inj : ∀ x y, f x = f y → x = y) (hm : m < sizeLine) (hw : ∀ x, wipe ((wipe σ [j]).set j (some x)) [j] = wipe σ [j])
    (hk : ∀ (i : Nat) (H' : Hp), i < m → Same H H' → ∀ Q' : VK, Q' (.int (f i)) H' → tk ((wipe σ [j]).set j (some (.int (0 + (i : Nat))))) H' Q')
    (q : ∀ D H', H D = none → Same H H' → H' D = some (.dK (dkv ((List.range m).map f))) → Q (.ref D) H') (D : Addr) (hD : H D = none) :
    DcLoop (Itr 0 m) (L2.gName j) tYes tk (tC (.bl true)) [j] σ D H Q := by
  refine ⟨fun i n H' => n = m - i ∧ i ≤ m ∧ Same H H' ∧ H' D = some (.dK (dkv ((List.range i).map f))), ⟨m, rfl, Nat.zero_le _, same_upd hD, upd_same⟩, ?_⟩
  rintro i n H' ⟨rfl, hi, s, g⟩
  by_cases hlt : i < m
  · refine .inr ⟨hlt, fun H' => Same H H' ∧ H' D = some (.dK (dkv ((List.range (i + 1)).map f))), fun H2 z => ⟨m - (i + 1), by omega, rfl, hlt, z⟩, fun x H2 y => ?_⟩
    obtain ⟨rfl, rfl⟩ := y
    refine ⟨hw _, ?_⟩
    unfold tYes
    refine iteT ?_
    refine hk i _ hlt s _ ?_
    refine ⟨_, Sum.inl (f i), rfl, g, ?_, Same.mut hD s, ?_⟩
    · rw [dkv_len, List.length_map, List.length_range]
      omega
    · rw [upd_same, dkv_put, List.range_succ, List.map_append]
      · rfl
      · intro z
        obtain ⟨y, hy, e⟩ := List.mem_map.mp z
        have := inj _ _ e
        have := List.mem_range.mp hy
        omega
  · have e : i = m := by omega
    subst e
    exact .inl ⟨Nat.le_refl _, q D H' hD s g⟩
end R
/-- [k for k in range(n) if p(k)] -/
theorem lcRF {σ : L2.St} {H : Hp} {Q : VK} {tt : TT} {j n : Nat} (p : Int → Bool) (hn : n < sizeLine) (hw : ∀ x, wipe ((wipe σ [j]).set j (some x)) [j] = wipe σ [j]) (hg : ∀ x, ((wipe σ [j]).set j (some x))[j]? = some (some x))
    (ht : ∀ (i : Nat) (H' : Hp), i < n → Same H H' → ∀ QB : Bool → Hp → Prop, QB (p i) H' → tt ((wipe σ [j]).set j (some (.int (0 + (i : Nat))))) H' QB)
    (q : ∀ D H', H D = none → Same H H' → H' D = some (.lst ((((List.range n).map fun (k : Nat) => (k : Int)).filter p).map V.int)) → Q (.ref D) H') : ∀ D, H D = none → R.LcLoop (Itr 0 n) (L2.gName j) tt (tVar j) [j] σ D H Q := by
  intro D hD
  refine R.lcI walk_range (fun i H' => Same H H' ∧ H' D = some (.lst ((((List.range i).map fun (k : Nat) => (k : Int)).filter p).map V.int))) ⟨same_upd hD, upd_same⟩ (fun _ _ _ _ => True.intro) ?_ ?_
  · rintro i x H1 H' hi ⟨s, g⟩ ⟨rfl, rfl⟩
    refine ⟨hw _, ht i _ hi s _ ?_⟩
    have e : ((List.range (i + 1)).map fun (k : Nat) => (k : Int)).filter p = ((List.range i).map fun (k : Nat) => (k : Int)).filter p ++ if p i = true then [(i : Int)] else [] := by
      rw [List.range_succ, List.map_append, List.filter_append]
      congr 1
      show [(i : Int)].filter p = _
      rw [List.filter_cons]
      rfl
    refine R.iB (fun hp => ?_) (fun hp => ?_)
    · rw [hp, if_pos rfl] at e
      refine ⟨_, hg _, _, g, ?_, Same.mut hD s, ?_⟩
      · rw [List.length_map]
        have l1 := List.length_filter_le p ((List.range i).map fun (k : Nat) => (k : Int))
        rw [List.length_map, List.length_range] at l1
        omega
      · rw [upd_same, e, List.map_append]
        show some (HO.lst (_ ++ [V.int (0 + (i : Nat))])) = some (HO.lst (_ ++ [V.int i]))
        rw [Int.zero_add]
    · rw [hp, if_neg (by decide), List.append_nil] at e
      exact ⟨s, by rw [e]; exact g⟩
  · rintro H' ⟨s, g⟩
    exact q D H' hD s g
end Rl
namespace Rl
open PySem PySem.Spec PyProof.Rows L2
theorem Goes.len {ns : List Int} {a : Int} {L : List Int} (h : Goes ns a L) : L.length ≤ 2 := by
  obtain ⟨h1, h2⟩ := h
  match L, h1, h2 with
  | [], _, _ => exact Nat.zero_le _
  | [_], _, _ => exact Nat.le_of_ble_eq_true rfl
  | [_, _], _, _ => exact Nat.le_refl _
  | x :: y :: z :: L, h1, h2 =>
    have hx := (h2 x).mp (by simp)
    have hy := (h2 y).mp (by simp)
    have hz := (h2 z).mp (by simp)
    simp only [List.pairwise_cons, List.mem_cons] at h1
    have l1 : x < y := h1.1 y (.inl rfl)
    have l2 : y < z := h1.2.1 z (.inl rfl)
    have l3 : x < z := by omega
    have cl : ∀ u v : Int, u < v → behind ns a = some u → behind ns a = some v → False := fun u v huv p q => by
      rw [p] at q
      cases q
      omega
    have ct : ∀ u v : Int, u < v → tgt ns a = some u → tgt ns a = some v → False := fun u v huv p q => by
      rw [p] at q
      cases q
      omega
    rcases hx with hx | ⟨_, hx⟩ <;> rcases hy with hy | ⟨_, hy⟩ <;> rcases hz with hz | ⟨_, hz⟩ <;> first
      | exact (cl _ _ l1 hx hy).elim
      | exact (cl _ _ l2 hy hz).elim
      | exact (cl _ _ l3 hx hz).elim
      | exact (ct _ _ l1 hx hy).elim
      | exact (ct _ _ l2 hy hz).elim
      | exact (ct _ _ l3 hx hz).elim
end Rl
namespace Rl
open PySem PySem.Spec PyProof.Rows L2
theorem row_range {ns : List Int} {a m : Int} {l : List PyData} (h : rowAt ns a = some (l, m)) : 0 ≤ a ∧ a < ns.length ∧ 1 ≤ m ∧ a + m ≤ ns.length := by
  by_cases hin : 0 ≤ a ∧ a < ns.length
  · obtain ⟨b, e⟩ : ∃ b, ns[a.toNat]? = some b := ⟨_, List.getElem?_eq_getElem (by omega)⟩
    rw [rowAt_in hin e] at h
    split at h
    · split at h
      · cases g : rowD b (ns.getD (a.toNat + 1) 0) with
        | none => rw [g] at h; cases h
        | some l2 =>
          rw [g] at h
          cases h
          omega
      · cases h
    · cases g : rowD b 0 with
      | none => rw [g] at h; cases h
      | some l2 =>
        rw [g] at h
        cases h
        omega
  · rw [rowAt_out hin] at h
    cases h
theorem row_byte {ns : List Int} {a m n : Int} {w : Str} (hb : By ns) (hw : w ∈ tgtT) (h : rowAt ns a = some ([.str w, .int n], m)) : 0 ≤ n ∧ n < 256 := by
  obtain ⟨h0, h1, _, _⟩ := row_range h
  obtain ⟨b, e⟩ : ∃ b, ns[a.toNat]? = some b := ⟨_, List.getElem?_eq_getElem (by omega)⟩
  have hb2 := hb b (List.mem_of_getElem? e)
  rw [rowAt_in ⟨h0, h1⟩ e] at h
  obtain ⟨z, hz, hl⟩ : ∃ z, (0 ≤ z ∧ z < 256) ∧ rowD b z = some [.str w, .int n] := by
    split at h
    · split at h
      · rename_i h2
        refine ⟨ns.getD (a.toNat + 1) 0, ?_, ?_⟩
        · rw [List.getD_eq_getElem?_getD, List.getElem?_eq_getElem (by omega)]
          exact hb _ (List.getElem_mem _)
        · cases g : rowD b (ns.getD (a.toNat + 1) 0) with
          | none => rw [g] at h; cases h
          | some l2 =>
            rw [g] at h
            cases h
            rfl
      · cases h
    · refine ⟨0, by decide, ?_⟩
      cases g : rowD b 0 with
      | none => rw [g] at h; cases h
      | some l2 =>
        rw [g] at h
        cases h
        rfl
  cases hd : dec b with
  | none =>
    unfold rowD at hl
    rw [hd] at hl
    cases hl
  | some p =>
    obtain ⟨w2, sh⟩ := p
    rw [rowD_dec hd] at hl
    have t := tgt_dec ⟨b.toNat, by omega⟩
    have e2 : ((b.toNat : Nat) : Int) = b := Int.toNat_of_nonneg hb2.1
    simp only [e2, hd] at t
    have hl2 := Option.some.inj hl
    injection hl2 with x1 x2
    injection x1 with x1
    rw [x1, decide_eq_true hw] at t
    have hs : sh = .n := of_decide_eq_true (eq_of_beq t).symm
    rw [hs] at x2
    have x3 : PyData.int z = PyData.int n := (List.cons.inj x2).1
    injection x3 with x3
    omega
end Rl
namespace Rl
open PySem PySem.Spec PyProof.Rows L2
/-! ## the old machine, as it is -/
structure Mc where
  bx : List Int
  cells : List Int
  zero : Bool
  less : Bool
  kept : List Int
  places : List Int
  ahead : List Int
  outs : List Int
  place : Int
  fin : Option Str
def Mc.box (m : Mc) (r : Nat) : Int := m.bx.getD r 0
def Mc.put (m : Mc) (r : Nat) (v : Int) : Mc := { m with bx := m.bx.set r v }
def Mc.mark (m : Mc) (z l : Bool) : Mc := { m with zero := z, less := l }
/-- what a row says, its boxes by number -/
inductive Op where
  | halt | back | rest
  | set (r : Nat) (n : Int) | copy (r s : Nat)
  | sum (add : Bool) (r s : Nat)
  | bits (k : Fin 3) (r s : Nat)
  | test (r s : Nat) | testn (r : Nat) (n : Int)
  | load (r s : Nat) | loadn (r : Nat) (n : Int)
  | store (r s : Nat) | storen (r : Nat) (n : Int)
  | go (k : Fin 5) (t : Int)
  | call (t : Int)
  | inn (r : Nat) | out (r : Nat) | keep (r : Nat) | take (r : Nat)
def bxN (r : Nat) : Str := Rl.box (r : Int)
def bitsW : Fin 3 → Str
  | 0 => "and"
  | 1 => "or"
  | 2 => "xor"
def bitsF : Fin 3 → Int → Int → Int
  | 0 => Builtin.bitAnd
  | 1 => Builtin.bitOr
  | 2 => Builtin.bitXor
def goW : Fin 5 → Str
  | 0 => "go"
  | 1 => "zero"
  | 2 => "nonzero"
  | 3 => "less"
  | 4 => "notless"
def goB (m : Mc) : Fin 5 → Bool
  | 0 => true
  | 1 => m.zero
  | 2 => !m.zero
  | 3 => m.less
  | 4 => !m.less
def Op.data : Op → List PyData
  | .halt => [.str "halt"]
  | .back => [.str "back"]
  | .rest => [.str "rest"]
  | .set r n => [.str "set", .str (bxN r), .int n]
  | .copy r s => [.str "copy", .str (bxN r), .str (bxN s)]
  | .sum a r s => [.str (if a then "add" else "sub"), .str (bxN r), .str (bxN s)]
  | .bits k r s => [.str (bitsW k), .str (bxN r), .str (bxN s)]
  | .test r s => [.str "test", .str (bxN r), .str (bxN s)]
  | .testn r n => [.str "testn", .str (bxN r), .int n]
  | .load r s => [.str "load", .str (bxN r), .str (bxN s)]
  | .loadn r n => [.str "loadn", .str (bxN r), .int n]
  | .store r s => [.str "store", .str (bxN r), .str (bxN s)]
  | .storen r n => [.str "storen", .str (bxN r), .int n]
  | .go k t => [.str (goW k), .int t]
  | .call t => [.str "call", .int t]
  | .inn r => [.str "in", .str (bxN r)]
  | .out r => [.str "out", .str (bxN r)]
  | .keep r => [.str "keep", .str (bxN r)]
  | .take r => [.str "take", .str (bxN r)]
/-- which def does it -/
def Op.doer : Op → Str
  | .halt => "done_alone"
  | .back => "done_alone"
  | .rest => "done_alone"
  | .set .. => "done_set"
  | .copy .. => "done_set"
  | .sum .. => "done_sum"
  | .bits .. => "done_bits"
  | .test .. => "done_test"
  | .testn .. => "done_test"
  | .load .. => "done_load"
  | .loadn .. => "done_load"
  | .store .. => "done_store"
  | .storen .. => "done_store"
  | .go .. => "done_go"
  | .call .. => "done_call"
  | .inn .. => "done_in"
  | .out .. => "done_out"
  | .keep .. => "done_keep"
  | .take .. => "done_take"
/-- its boxes are boxes, its numbers bytes -/
def Op.Ok : Op → Prop
  | .halt => True
  | .back => True
  | .rest => True
  | .set r n => r < 4 ∧ 0 ≤ n ∧ n < 256
  | .copy r s => r < 4 ∧ s < 4
  | .sum _ r s => r < 4 ∧ s < 4
  | .bits _ r s => r < 4 ∧ s < 4
  | .test r s => r < 4 ∧ s < 4
  | .testn r n => r < 4 ∧ 0 ≤ n ∧ n < 256
  | .load r s => r < 4 ∧ s < 4
  | .loadn r n => r < 4 ∧ 0 ≤ n ∧ n < 256
  | .store r s => r < 4 ∧ s < 4
  | .storen r n => r < 4 ∧ 0 ≤ n ∧ n < 256
  | .go _ t => 0 ≤ t ∧ t < 256
  | .call t => 0 ≤ t ∧ t < 256
  | .inn r => r < 4
  | .out r => r < 4
  | .keep r => r < 4
  | .take r => r < 4
def Mc.act (m : Mc) : Op → Mc
  | .halt => { m with fin := some "halt" }
  | .back => if m.places = [] then { m with fin := some "bare" } else { m with place := m.places.getD (m.places.length - 1) 0, places := m.places.dropLast }
  | .rest => m
  | .set r n => m.put r n
  | .copy r s => m.put r (m.box s)
  | .sum a r s => (m.put r ((if a then m.box r + m.box s else m.box r - m.box s) % 256)).mark (decide ((if a then m.box r + m.box s else m.box r - m.box s) % 256 = 0)) (!decide (0 ≤ (if a then m.box r + m.box s else m.box r - m.box s) ∧ (if a then m.box r + m.box s else m.box r - m.box s) < 256))
  | .bits k r s => (m.put r (bitsF k (m.box r) (m.box s))).mark (decide (bitsF k (m.box r) (m.box s) = 0)) false
  | .test r s => m.mark (decide (m.box r = m.box s)) (decide (m.box r < m.box s))
  | .testn r n => m.mark (decide (m.box r = n)) (decide (m.box r < n))
  | .load r s => m.put r (m.cells.getD (m.box s % 64).toNat 0)
  | .loadn r n => m.put r (m.cells.getD (n % 64).toNat 0)
  | .store r s => { m with cells := m.cells.set (m.box r % 64).toNat (m.box s) }
  | .storen r n => { m with cells := m.cells.set (n % 64).toNat (m.box r) }
  | .go k t => if goB m k then { m with place := t } else m
  | .call t => if m.places.length = 16 then { m with fin := some "deep" } else { m with places := m.places ++ [m.place], place := t }
  | .inn r => if m.ahead = [] then m.put r 0 else { m.put r (m.ahead.getD 0 0) with ahead := m.ahead.drop 1 }
  | .out r => { m with outs := m.outs ++ [m.box r] }
  | .keep r => if m.kept.length = 16 then { m with fin := some "deep" } else { m with kept := m.kept ++ [m.box r] }
  | .take r => if m.kept = [] then { m with fin := some "bare" } else { m.put r (m.kept.getD (m.kept.length - 1) 0) with kept := m.kept.dropLast }
/-- what holds of it at any time -/
structure Mc.Ok (m : Mc) : Prop where
  bl : m.bx.length = 4
  bb : By m.bx
  cl : m.cells.length = 64
  cb : By m.cells
  kl : m.kept.length ≤ 16
  kb : By m.kept
  pl : m.places.length ≤ 16
  ab : By m.ahead
/-- a new one -/
def Mc.new (ahead : List Int) : Mc := ⟨[0, 0, 0, 0], List.replicate 64 0, false, false, [], [], ahead, [], 0, none⟩
/-- every row is one of these -/
theorem row_op {ns : List Int} {a m : Int} {l : List PyData} (hb : By ns) (h : rowAt ns a = some (l, m)) : ∃ op : Op, l = op.data ∧ op.Ok := by
  have r := row_range h
  obtain ⟨b, e⟩ : ∃ b, ns[a.toNat]? = some b := ⟨_, List.getElem?_eq_getElem (by omega)⟩
  have hb2 := hb b (List.mem_of_getElem? e)
  rw [rowAt_in ⟨r.1, r.2.1⟩ e] at h
  obtain ⟨z, hz, hl⟩ : ∃ z, (0 ≤ z ∧ z < 256) ∧ rowD b z = some l := by
    split at h
    · split at h
      · rename_i h2
        refine ⟨ns.getD (a.toNat + 1) 0, ?_, ?_⟩
        · rw [List.getD_eq_getElem?_getD, List.getElem?_eq_getElem (by omega)]
          exact hb _ (List.getElem_mem _)
        · cases g : rowD b (ns.getD (a.toNat + 1) 0) with
          | none => rw [g] at h; cases h
          | some l2 =>
            rw [g] at h
            cases h
            rfl
      · cases h
    · refine ⟨0, by decide, ?_⟩
      cases g : rowD b 0 with
      | none => rw [g] at h; cases h
      | some l2 =>
        rw [g] at h
        cases h
        rfl
  have hr : (b / 4 % 4).toNat < 4 := by omega
  have hs : (b % 4).toNat < 4 := by omega
  have er : bxN (b / 4 % 4).toNat = boxR b := by
    unfold bxN boxR
    rw [Int.toNat_of_nonneg (by omega)]
  have es : bxN (b % 4).toNat = boxS b := by
    unfold bxN boxS
    rw [Int.toNat_of_nonneg (by omega)]
  cases hd : dec b with
  | none =>
    unfold rowD at hl
    rw [hd] at hl
    cases hl
  | some p =>
    obtain ⟨wd, sh⟩ := p
    rw [rowD_dec hd] at hl
    obtain rfl := Option.some.inj hl
    have key : ∀ b : Fin 256, (match dec (b.val : Int) with
      | some (w, .e) => decide (w ∈ (["halt", "back", "rest"] : List Str))
      | some (w, .rs) => decide (w ∈ (["copy", "add", "sub", "and", "or", "xor", "test", "load", "store"] : List Str))
      | some (w, .rn) => decide (w ∈ (["set", "testn", "loadn", "storen"] : List Str))
      | some (w, .n) => decide (w ∈ (["go", "zero", "nonzero", "less", "notless", "call"] : List Str))
      | some (w, .r) => decide (w ∈ (["in", "out", "keep", "take"] : List Str))
      | none => true) = true := by decide +kernel
    have k := key ⟨b.toNat, by omega⟩
    have e2 : ((b.toNat : Nat) : Int) = b := Int.toNat_of_nonneg hb2.1
    simp only [e2, hd] at k
    cases sh with
    | e =>
      have k2 := of_decide_eq_true k
      simp only [List.mem_cons, List.not_mem_nil, or_false] at k2
      rcases k2 with rfl | rfl | rfl
      · exact ⟨.halt, rfl, True.intro⟩
      · exact ⟨.back, rfl, True.intro⟩
      · exact ⟨.rest, rfl, True.intro⟩
    | rs =>
      have k2 := of_decide_eq_true k
      simp only [List.mem_cons, List.not_mem_nil, or_false] at k2
      unfold restD
      rw [← er, ← es]
      rcases k2 with rfl | rfl | rfl | rfl | rfl | rfl | rfl | rfl | rfl
      · exact ⟨.copy _ _, rfl, hr, hs⟩
      · exact ⟨.sum true _ _, rfl, hr, hs⟩
      · exact ⟨.sum false _ _, rfl, hr, hs⟩
      · exact ⟨.bits 0 _ _, rfl, hr, hs⟩
      · exact ⟨.bits 1 _ _, rfl, hr, hs⟩
      · exact ⟨.bits 2 _ _, rfl, hr, hs⟩
      · exact ⟨.test _ _, rfl, hr, hs⟩
      · exact ⟨.load _ _, rfl, hr, hs⟩
      · exact ⟨.store _ _, rfl, hr, hs⟩
    | rn =>
      have k2 := of_decide_eq_true k
      simp only [List.mem_cons, List.not_mem_nil, or_false] at k2
      unfold restD
      rw [← er]
      rcases k2 with rfl | rfl | rfl | rfl
      · exact ⟨.set _ _, rfl, hr, hz⟩
      · exact ⟨.testn _ _, rfl, hr, hz⟩
      · exact ⟨.loadn _ _, rfl, hr, hz⟩
      · exact ⟨.storen _ _, rfl, hr, hz⟩
    | n =>
      have k2 := of_decide_eq_true k
      simp only [List.mem_cons, List.not_mem_nil, or_false] at k2
      unfold restD
      rcases k2 with rfl | rfl | rfl | rfl | rfl | rfl
      · exact ⟨.go 0 _, rfl, hz⟩
      · exact ⟨.go 1 _, rfl, hz⟩
      · exact ⟨.go 2 _, rfl, hz⟩
      · exact ⟨.go 3 _, rfl, hz⟩
      · exact ⟨.go 4 _, rfl, hz⟩
      · exact ⟨.call _, rfl, hz⟩
    | r =>
      have k2 := of_decide_eq_true k
      simp only [List.mem_cons, List.not_mem_nil, or_false] at k2
      unfold restD
      rw [← er]
      rcases k2 with rfl | rfl | rfl | rfl
      · exact ⟨.inn _, rfl, hr⟩
      · exact ⟨.out _, rfl, hr⟩
      · exact ⟨.keep _, rfl, hr⟩
      · exact ⟨.take _, rfl, hr⟩
end Rl
namespace Rl
open PySem PySem.Spec PyProof.Rows L2
/-! ## the bytes of a row -/
/-- the first byte -/
def Op.fst : Op → Int
  | .halt => 0
  | .back => 1
  | .rest => 2
  | .set r _ => 16 + 4 * r
  | .copy r s => 32 + 4 * r + s
  | .sum a r s => (if a then 48 else 64) + 4 * r + s
  | .bits k r s => 80 + 16 * (k.val : Nat) + 4 * r + s
  | .test r s => 128 + 4 * r + s
  | .testn r _ => 144 + 4 * r
  | .load r s => 160 + 4 * r + s
  | .loadn r _ => 192 + 4 * r
  | .store r s => 176 + 4 * r + s
  | .storen r _ => 208 + 4 * r
  | .go k _ => 224 + (k.val : Nat)
  | .call _ => 229
  | .inn r => 240 + 4 * r
  | .out r => 241 + 4 * r
  | .keep r => 242 + 4 * r
  | .take r => 243 + 4 * r
/-- the second one, if there is one -/
def Op.snd : Op → List Int
  | .set _ n => [n]
  | .testn _ n => [n]
  | .loadn _ n => [n]
  | .storen _ n => [n]
  | .go _ t => [t]
  | .call t => [t]
  | _ => []
def Op.bytes (op : Op) : List Int := op.fst :: op.snd
/-- as values -/
def flV : PyData → V
  | .str s => .str s
  | .int i => .int i
  | _ => .non
def Op.vals (op : Op) : List V := op.data.map flV
end Rl
namespace Rl
open PySem PySem.Spec PyProof.Rows L2
/-! ## words in lists, written; places in lists and texts -/
theorem in_ints (i : Int) : ∀ ns : List Int, inV (.int i) (ns.map V.int) = decide (i ∈ ns)
  | [] => rfl
  | z :: ns => by
    have ih := in_ints i ns
    unfold inV at ih ⊢
    rw [List.map_cons, List.any_cons, ih]
    show ((z == i) || decide (i ∈ ns)) = _
    by_cases h : i = z
    · subst h
      simp
    · have h2 : ¬ z = i := fun q => h q.symm
      simp [h, h2]
theorem R.inInts {K : PySem.W.Frag} {H : Hp} {Q : VK} {i : Int} {ns : List Int} {p : Addr} (h : SqL K H p (ns.map V.int) ∨ SqT K H p (ns.map V.int)) (q : Q (.bl (decide (i ∈ ns))) H) : rIn K false (.int i) (.ref p) H Q :=
  ⟨p, _, rfl, h, rfl, List.all_eq_true.mpr fun x hx => by
    obtain ⟨z, _, rfl⟩ := List.mem_map.mp hx
    rfl, by
    rw [← in_ints] at q
    exact q⟩
theorem R.ninInts {K : PySem.W.Frag} {H : Hp} {Q : VK} {i : Int} {ns : List Int} {p : Addr} (h : SqL K H p (ns.map V.int) ∨ SqT K H p (ns.map V.int)) (q : Q (.bl (!decide (i ∈ ns))) H) : rIn K true (.int i) (.ref p) H Q :=
  ⟨p, _, rfl, h, rfl, List.all_eq_true.mpr fun x hx => by
    obtain ⟨z, _, rfl⟩ := List.mem_map.mp hx
    rfl, by
    rw [← in_ints] at q
    exact q⟩
namespace R
section
variable {K : PySem.W.Frag} {σ : L2.St} {H : Hp} {Q : VK} {tk : TE} {n : Nat} {key : Str} {v : V} {nx bk ct : L2.St → Hp → Prop} {rt : VK} {t u : TS} {te tf : TE} {wd z : Str} {ws : List Str}
/-- a list of words, written -/
def strL : List Str → TA
  | [] => tNil
  | w :: ws => tCons (tC (.str w)) (strL ws)
theorem strL_ok : ∀ (ws : List Str) {σ : L2.St} {H : Hp} {QA : List V → Hp → Prop}, QA (ws.map V.str) H → strL ws σ H QA
  | [], _, _, _, q => R.nil q
  | w :: ws, _, _, QA, q => R.cons (R.c (strL_ok ws (QA := fun xs H2 => QA (.str w :: xs) H2) q))
theorem inN (ws : List Str) (hn : wd ∉ ws) (q : ∀ H', Same H H' → u ⟨nx, rt, bk, ct⟩ σ H') (hl : ws.length ≤ sizeLine := by decide) (h0 : σ[n]? = some (some (.str wd)) := by with_unfolding_all rfl) : tIfS (tTest (tOp (rIn K false) (tVar n) (tLst (strL ws)))) t u ⟨nx, rt, bk, ct⟩ σ H :=
  R.ifS (R.test (R.op (R.var (R.lst (strL_ok ws ⟨by rw [List.length_map]; exact hl, fun l hl2 => R.inStrs (ws := ws) (.inl (SqL.of upd_same)) (R.bl (R.iDF hn (q _ (same_upd hl2))))⟩)) h0)))
theorem inY (ws : List Str) (hn : wd ∈ ws) (q : ∀ H', Same H H' → t ⟨nx, rt, bk, ct⟩ σ H') (hl : ws.length ≤ sizeLine := by decide) (h0 : σ[n]? = some (some (.str wd)) := by with_unfolding_all rfl) : tIfS (tTest (tOp (rIn K false) (tVar n) (tLst (strL ws)))) t u ⟨nx, rt, bk, ct⟩ σ H :=
  R.ifS (R.test (R.op (R.var (R.lst (strL_ok ws ⟨by rw [List.length_map]; exact hl, fun l hl2 => R.inStrs (ws := ws) (.inl (SqL.of upd_same)) (R.bl (R.iDT hn (q _ (same_upd hl2))))⟩)) h0)))
theorem eqN (hn : wd ≠ z) (q : u ⟨nx, rt, bk, ct⟩ σ H) (h0 : σ[n]? = some (some (.str wd)) := by with_unfolding_all rfl) : tIfS (tTest (tOp (rEqA K) (tVar n) (tC (.str z)))) t u ⟨nx, rt, bk, ct⟩ σ H := R.ifS (R.test (R.op (R.var (R.c (R.eqS (R.bl (R.iDF hn q)))) h0)))
theorem eqY (hn : wd = z) (q : t ⟨nx, rt, bk, ct⟩ σ H) (h0 : σ[n]? = some (some (.str wd)) := by with_unfolding_all rfl) : tIfS (tTest (tOp (rEqA K) (tVar n) (tC (.str z)))) t u ⟨nx, rt, bk, ct⟩ σ H := R.ifS (R.test (R.op (R.var (R.c (R.eqS (R.bl (R.iDT hn q)))) h0)))
theorem andN {c : TT} (hn : wd ≠ z) (q : u ⟨nx, rt, bk, ct⟩ σ H) (h0 : σ[n]? = some (some (.str wd)) := by with_unfolding_all rfl) : tIfS (tAnd (tTest (tOp (rEqA K) (tVar n) (tC (.str z)))) c) t u ⟨nx, rt, bk, ct⟩ σ H :=
  R.ifS (R.and' (R.test (R.op (R.var (R.c (R.eqS (R.bl (R.iDF hn (R.iF q))))) h0))))
theorem andY {c : TT} (hn : wd = z) (q : c σ H fun b H1 => if b = true then t ⟨nx, rt, bk, ct⟩ σ H1 else u ⟨nx, rt, bk, ct⟩ σ H1) (h0 : σ[n]? = some (some (.str wd)) := by with_unfolding_all rfl) : tIfS (tAnd (tTest (tOp (rEqA K) (tVar n) (tC (.str z)))) c) t u ⟨nx, rt, bk, ct⟩ σ H :=
  R.ifS (R.and' (R.test (R.op (R.var (R.c (R.eqS (R.bl (R.iDT hn q)))) h0))))
theorem eN (hn : wd ≠ z) (q : tf σ H Q) (h0 : σ[n]? = some (some (.str wd)) := by with_unfolding_all rfl) : tIf (tTest (tOp (rEqA K) (tVar n) (tC (.str z)))) te tf σ H Q := R.ifE (R.test (R.op (R.var (R.c (R.eqS (R.bl (R.iDF hn q)))) h0)))
theorem eY (hn : wd = z) (q : te σ H Q) (h0 : σ[n]? = some (some (.str wd)) := by with_unfolding_all rfl) : tIf (tTest (tOp (rEqA K) (tVar n) (tC (.str z)))) te tf σ H Q := R.ifE (R.test (R.op (R.var (R.c (R.eqS (R.bl (R.iDT hn q)))) h0)))
theorem rw0 {p : Addr} {x : V} {xs : List V} (hp : SqT K H p (x :: xs)) (q : Q x H) (h0 : σ[n]? = some (some (.ref p)) := by with_unfolding_all rfl) : tOp (rIx K) (tVar n) (tC (.int 0)) σ H Q := R.op (R.var (R.c (R.ixT0 hp q)) h0)
theorem rw1 {p : Addr} {x y : V} {xs : List V} (hp : SqT K H p (x :: y :: xs)) (q : Q y H) (h0 : σ[n]? = some (some (.ref p)) := by with_unfolding_all rfl) : tOp (rIx K) (tVar n) (tC (.int 1)) σ H Q := R.op (R.var (R.c (R.ixT1 hp q)) h0)
theorem rw2 {p : Addr} {x y z : V} {xs : List V} (hp : SqT K H p (x :: y :: z :: xs)) (q : Q z H) (h0 : σ[n]? = some (some (.ref p)) := by with_unfolding_all rfl) : tOp (rIx K) (tVar n) (tC (.int 2)) σ H Q := R.op (R.var (R.c (R.ixT hp (atI_pos (by decide) rfl) q)) h0)
theorem eqV_str {a b : Str} : eqV (V.str a) (V.str b) = decide (a = b) := rfl
theorem lstIx {p : Addr} {j : Nat} (h : SqL K H p (ws.map V.str)) (hj : ws[j]? = some wd) (hn : ∀ m, m < j → ws[m]? ≠ some wd) (q : Q (.int j) H) : rIndex K (.ref p) [.str wd] H Q := by
  refine ⟨p, _, .str wd, j, .str wd, rfl, rfl, h, rfl, List.all_eq_true.mpr fun x hx => ?_, by rw [List.getElem?_map, hj]; rfl, by rw [eqV_str, decide_eq_true rfl], fun m z' hm hz => ?_, q⟩
  · obtain ⟨y, _, rfl⟩ := List.mem_map.mp hx
    rfl
  · rw [List.getElem?_map] at hz
    cases e : ws[m]? with
    | none =>
      rw [e] at hz
      cases hz
    | some y =>
      rw [e] at hz
      obtain rfl : V.str y = z' := Option.some.inj hz
      rw [eqV_str, decide_eq_false fun e2 => hn m hm (by rw [e, e2])]
/-- [..].index(word), the list written -/
theorem ixOf (ws : List Str) {j : Nat} (hj : ws[j]? = some wd) (hn : ∀ m, m < j → ws[m]? ≠ some wd) (q : ∀ H', Same H H' → Q (.int j) H') (hl : ws.length ≤ sizeLine := by decide) (h0 : σ[n]? = some (some (.str wd)) := by with_unfolding_all rfl) : tBM K "list" (rIndex K) (tLst (strL ws)) (tCons (tVar n) tNil) σ H Q :=
  R.bm (R.lst (strL_ok ws ⟨by rw [List.length_map]; exact hl, fun l hl2 => R.tyL upd_same (R.cons (R.var (R.nil (lstIx (ws := ws) (SqL.of upd_same) hj hn (q _ (same_upd hl2)))) h0))⟩))
end
end R
end Rl
namespace Rl
open PySem PySem.Spec PyProof.Rows L2
/-! ## a, *rest = a tuple or a list -/
/-- n targets, the last one starred -/
def gStar (K : PySem.W.Frag) (n : Nat) (t : TGs) : TG := fun v σ H Q => ∃ a xs, v = .ref a ∧ (SqT K H a xs ∨ SqL K H a xs) ∧ n ≤ xs.length + 1 ∧ xs.length ≤ 16384 ∧ ∀ D, H D = none → t (xs.take (n - 1) ++ [.ref D]) σ (upd H D (.lst (xs.drop (n - 1)))) Q
section
variable {X : Cx}
/-- behind the draws: the rest is laid down as a list -/
theorem star_laid {pins : List (Addr × Obj)} {σ : L2.St} {H : Hp} {s : Shared} {xs : List V} {us : List Value} {k : Nat} {E : Value → Shared → Prop} {P : List Value → Shared → Prop} (I : Inv X pins σ H s) (rv : Vals xs us) (hz : xs.length ≤ 16384)
    {h' : Heap} {tk : Nat} (keep : ∀ b o, s.heap.get? b = some o → h'.get? b = some o)
    (fin : ∀ D s', Inv X pins σ (upd H D (.lst (xs.drop k))) s' → H D = none → P (us.take k ++ [.ref D] ++ []) s') :
    wpAny (model X.prog X.w) X.A (newList (us.drop k) >>= fun d => pure (us.take k ++ [d] ++ [])) P E { s with heap := h', toks := tk } := by
  have J : Inv X pins σ H { s with heap := h', toks := tk } := I.kept keep
  have small : (us.drop k).length ≤ sizeLine := by
    rw [List.length_drop, ← rv.length, sizeLine_eq]
    omega
  have small2 : (xs.drop k).length ≤ sizeLine := by
    rw [List.length_drop, sizeLine_eq]
    omega
  refine wpAny_bind (wpAny_newList ?_ small)
  refine wpAny_pure (fin _ _ (J.laid (t' := tk) (fun b o e => Heap.get?_push_of_some _ e) (Nat.le_refl _) ?_) (J.hok.fresh (Nat.le_refl _)))
  exact ⟨small2, us.drop k, 0, rv.drop k, Heap.get?_push_size _ rfl⟩
theorem pg_star {es : List Expr} {kk : Nat} {pos : Pos} {t : TGs} {i : Nat} (hc : X.calm = true) (h : PGs X es t)
    (hn : (assignEach es X.env).length = i + 1 := by rfl) (hst : (assignEach es X.env).findIdx? (·.1) = some i := by rfl) : PG X (.Tuple es kk pos) (gStar X.K (i + 1) t) := by
  refine ⟨fun pins s σ H v u Q I r hw => ?_⟩
  obtain ⟨a, xs, e1, hq, hl, hz, hw⟩ := hw
  subst e1
  cases r
  have hh := I.ok.hd hc
  rw [assign_Tuple]
  refine wpAny_bind (wpAny_standAt ?_)
  unfold unpack
  rw [hn, hst]
  refine wpAny_bind (wpAny_holding ?_)
  rcases hq with hq | hq
  · obtain ⟨its, rv, ht, _⟩ := I.tuple hq
    have hsz : its.toArray.size = xs.length := by rw [List.size_toArray, ← rv.length]
    have hlt : a ≠ s.heap.objs.size := by obtain ⟨o, ho, _⟩ := ht; exact Nat.ne_of_lt (Heap.lt_size ho)
    unfold unpackItems
    refine wpAny_bind ?_
    unfold notIterableAtAll
    refine wpAny_bind (wpAny_specialOf ht.typeIs slot_tuple_iter.lookup ?_)
    refine wpAny_pure ?_
    simp only [Bool.false_eq_true, if_false]
    refine wpAny_bind (wpAny_holding (iter_tuple ht ?_))
    refine wpAny_bind (wpAny_holding (draw_tuple hlt i 0 _ _ ⟨_, Heap.get?_push_size _ rfl, rfl, rfl⟩ (ht.push _) (by omega) fun h₁ hit₁ hs₁ => ?_))
    have hl₁ : IsTup h₁ a its.toArray := (ht.push _).extBut hs₁.extBut hlt
    rw [Nat.zero_add] at hit₁
    have hit₁' := hit₁
    obtain ⟨oi, hoi, _⟩ := hit₁'
    have hl₁' := hl₁
    obtain ⟨ol, hol, _⟩ := hl₁'
    rw [List.drop_zero]
    have hfl : (its.toArray.toList.take i).length = i := by rw [List.length_take, Array.length_toList]; omega
    rw [if_neg (show ¬ ((its.toArray.toList.take i).length < i) by rw [hfl]; omega)]
    refine wpAny_bind (wpAny_holding (PySem.W.kun_collect (s := { s with heap := h₁ }) (T := "tuple_iterator") (.inr (.inr (.inr rfl))) (Walks.tuple (A := X.A.in1) hh s.heap.objs.size a hlt its.toArray) (fun j u st => st.1.typeIs) (k := i) (by omega) ⟨hit₁, hl₁⟩ (Heap.lt_size hoi) (Heap.lt_size hol) (fun h₂ tk hk => ?_) (by rw [sizeLine_eq]; omega)))
    have hrl : (its.toArray.toList.drop i).length = its.toArray.size - i := by rw [List.length_drop, Array.length_toList]
    show wpAny _ _ (if (its.toArray.toList.drop i).length < i + 1 - 1 - i then _ else _) _ _ _
    rw [if_neg (by omega)]
    show wpAny _ _ (newList ((its.toArray.toList.drop i).take ((its.toArray.toList.drop i).length - (i + 1 - 1 - i))) >>= fun d => pure (its.toArray.toList.take i ++ [d] ++ (its.toArray.toList.drop i).drop ((its.toArray.toList.drop i).length - (i + 1 - 1 - i)))) _ _ _
    rw [show i + 1 - 1 - i = 0 by omega, Nat.sub_zero, List.take_length, List.drop_length]
    refine star_laid (xs := xs) I (by rw [List.toList_toArray]; exact rv) hz (fun b o e => hk b o (Nat.ne_of_lt (Heap.lt_size e)) (hs₁.extBut b o (Nat.ne_of_lt (Heap.lt_size e)) (Heap.get?_push_of_some _ e))) fun D s' I' hD => ?_
    refine h.run pins _ σ _ (xs.take i ++ [.ref D]) _ Q I' ?_ (hw D hD)
    rw [List.append_nil]
    exact (by rw [List.toList_toArray]; exact rv.take i : Vals (xs.take i) (its.toArray.toList.take i)).append (.cons (rfl : RelV (V.ref D) (Value.ref D)) .nil)
  · obtain ⟨its, rv, ht0, _⟩ := I.list hq
    have ht : s.heap.IsList a its.toArray := ht0.isList
    have hsz : its.toArray.size = xs.length := by rw [List.size_toArray, ← rv.length]
    have hlt : a ≠ s.heap.objs.size := by obtain ⟨o, ho, _⟩ := ht; exact Nat.ne_of_lt (Heap.lt_size ho)
    unfold unpackItems
    refine wpAny_bind ?_
    unfold notIterableAtAll
    refine wpAny_bind (wpAny_specialOf ht.typeIs slot_list_iter.lookup ?_)
    refine wpAny_pure ?_
    simp only [Bool.false_eq_true, if_false]
    refine wpAny_bind (wpAny_holding (wpAny_pyIter_list ht ?_))
    refine wpAny_bind (wpAny_holding (PySem.W.kun_draw hlt i 0 _ _ ⟨_, Heap.get?_push_size _ rfl, rfl, rfl⟩ (ht.push _) (by omega) fun h₁ hit₁ hs₁ => ?_))
    have hl₁ : h₁.IsList a its.toArray := (ht.push _).extBut hs₁.extBut hlt
    rw [Nat.zero_add] at hit₁
    have hit₁' := hit₁
    obtain ⟨oi, hoi, _⟩ := hit₁'
    have hl₁' := hl₁
    obtain ⟨ol, hol, _⟩ := hl₁'
    rw [List.drop_zero]
    have hfl : (its.toArray.toList.take i).length = i := by rw [List.length_take, Array.length_toList]; omega
    rw [if_neg (show ¬ ((its.toArray.toList.take i).length < i) by rw [hfl]; omega)]
    refine wpAny_bind (wpAny_holding (PySem.W.kun_collect (s := { s with heap := h₁ }) (T := "list_iterator") (.inr (.inr (.inl rfl))) (Walks.list (A := X.A.in1) hh s.heap.objs.size a hlt its.toArray) (fun j u st => st.1.typeIs) (k := i) (by omega) ⟨hit₁, hl₁⟩ (Heap.lt_size hoi) (Heap.lt_size hol) (fun h₂ tk hk => ?_) (by rw [sizeLine_eq]; omega)))
    have hrl : (its.toArray.toList.drop i).length = its.toArray.size - i := by rw [List.length_drop, Array.length_toList]
    show wpAny _ _ (if (its.toArray.toList.drop i).length < i + 1 - 1 - i then _ else _) _ _ _
    rw [if_neg (by omega)]
    show wpAny _ _ (newList ((its.toArray.toList.drop i).take ((its.toArray.toList.drop i).length - (i + 1 - 1 - i))) >>= fun d => pure (its.toArray.toList.take i ++ [d] ++ (its.toArray.toList.drop i).drop ((its.toArray.toList.drop i).length - (i + 1 - 1 - i)))) _ _ _
    rw [show i + 1 - 1 - i = 0 by omega, Nat.sub_zero, List.take_length, List.drop_length]
    refine star_laid (xs := xs) I (by rw [List.toList_toArray]; exact rv) hz (fun b o e => hk b o (Nat.ne_of_lt (Heap.lt_size e)) (hs₁.extBut b o (Nat.ne_of_lt (Heap.lt_size e)) (Heap.get?_push_of_some _ e))) fun D s' I' hD => ?_
    refine h.run pins _ σ _ (xs.take i ++ [.ref D]) _ Q I' ?_ (hw D hD)
    rw [List.append_nil]
    exact (by rw [List.toList_toArray]; exact rv.take i : Vals (xs.take i) (its.toArray.toList.take i)).append (.cons (rfl : RelV (V.ref D) (Value.ref D)) .nil)
/-- a starred target takes its value as the name within -/
theorem pgs_star {e : Expr} {p : Pos} {es : List Expr} {t : TG} {u : TGs} (h1 : PG X e t) (h2 : PGs X es u)
    (hs : (assignEach (.Starred e p :: es) X.env).map (·.2) = assign e X.env :: (assignEach es X.env).map (·.2) := by rfl) : PGs X (.Starred e p :: es) (gCons t u) := by
  refine ⟨fun pins s σ H vs us Q I r h => ?_⟩
  obtain ⟨v, vr, e1, h⟩ := h
  subst e1
  cases r with
  | cons r rr =>
    rw [hs]
    refine assignInOrder_cons (thn (h1.run pins s σ H _ _ _ I r h) fun _ s1 ⟨σ1, H1, I1, q1⟩ => ?_)
    exact h2.run pins s1 σ1 H1 _ _ Q I1 rr q1
end
end Rl
namespace Rl
open PySem PySem.Spec PyProof.Rows L2
/-! ## what is never come to; places in texts and tuples; types in a tuple -/
def tNever : TS := fun _ _ _ => False
theorem ps_never {X : Cx} {st : Stmt} : PS X st tNever := ⟨fun _ _ _ _ _ _ h => h.elim⟩
def rStrIx : V → List V → Hp → VK → Prop := fun x xs H Q => ∃ a b i rest, x = .str a ∧ xs = [.str b] ∧ Builtin.Str.occurrences a b 0 a.length 1 = i :: rest ∧ Q (.int (i : Nat)) H
def rTupIx (K : PySem.W.Frag) : V → List V → Hp → VK → Prop := fun x xs H Q => ∃ p, ∃ ys : List Str, ∃ z j, x = .ref p ∧ xs = [.str z] ∧ SqT K H p (ys.map V.str) ∧ ys[j]? = some z ∧ (∀ m, m < j → ys[m]? ≠ some z) ∧ Q (.int (j : Nat)) H
namespace R
section
variable {K : PySem.W.Frag} {σ : L2.St} {H : Hp} {Q : VK}
theorem strIx {a b : Str} {i : Nat} {rest : List Nat} (h : Builtin.Str.occurrences a b 0 a.length 1 = i :: rest) (q : Q (.int i) H) : rStrIx (.str a) [.str b] H Q := ⟨a, b, i, rest, rfl, rfl, h, q⟩
theorem tupIx {p : Addr} {ys : List Str} {z : Str} {j : Nat} (h : SqT K H p (ys.map V.str)) (hj : ys[j]? = some z) (hn : ∀ m, m < j → ys[m]? ≠ some z) (q : Q (.int j) H) : rTupIx K (.ref p) [.str z] H Q := ⟨p, ys, z, j, rfl, rfl, h, hj, hn, q⟩
theorem tyS {s : Str} {A : Prop} (q : A) : tyV K "str" (.str s) H ∧ A := ⟨rfl, q⟩
theorem tyT {p : Addr} {A : Prop} (h : ∃ o, K.lookup p = some o ∧ o.cls = .type "tuple" ∧ o.dict = none) (q : A) : tyV K "tuple" (.ref p) H ∧ A := ⟨.inr (.inl ⟨rfl, h⟩), q⟩
/-- isinstance(x, (list, tuple)) -/
theorem isiLT {p : Addr} {xs : List V} {tp : Addr} (h : SqL K H p xs) (ht : H tp = some (.tup [.ty "list", .ty "tuple"])) (q : Q (.bl true) H) : rIsiT K [.ref p, .ref tp] H Q :=
  ⟨.ref p, tp, _, .type "list", [.type "list", .type "tuple"], true, rfl, ht, .cons (.ty _) (.cons (.ty _) .nil), sql_ty h, kitAny_cons (b := true) (kit_ty (by decide +kernel)) (fun z => nomatch z) fun _ => rfl, q⟩
theorem gStar {i : Nat} {t : TGs} {a : Addr} {xs : List V} {QS : L2.St → Hp → Prop} (h : SqT K H a xs ∨ SqL K H a xs) (hn : i ≤ xs.length) (hl : xs.length ≤ 16384) (q : ∀ D, H D = none → t (xs.take i ++ [.ref D]) σ (upd H D (.lst (xs.drop i))) QS) : Rl.gStar K (i + 1) t (.ref a) σ H QS := ⟨a, xs, rfl, h, by omega, hl, q⟩
end
end R
/-- a tuple of K that has no dict: a look that the head can take -/
def tupN (K : PySem.W.Frag) (x : Str) : Bool := match K.lookup (He.ga K x) with
  | some ⟨.type c, none, .seq _ _, _⟩ => decide (c = "tuple")
  | _ => false
theorem tupN_ok {K : PySem.W.Frag} {x : Str} (h : tupN K x = true) : ∃ o, K.lookup (He.ga K x) = some o ∧ o.cls = .type "tuple" ∧ o.dict = none := by
  unfold tupN at h
  cases q : K.lookup (He.ga K x) with
  | none =>
    rw [q] at h
    cases h
  | some o =>
    obtain ⟨oc, od, dt, osl⟩ := o
    rw [q] at h
    cases oc with
    | type c =>
      cases od with
      | none =>
        cases dt with
        | seq its n => exact ⟨_, rfl, by rw [of_decide_eq_true h], rfl⟩
        | _ => cases h
      | some _ => cases h
    | _ => cases h
end Rl
namespace Rl
open PySem PySem.Spec PyProof.Rows L2
/-! ## codes of rows, drawn: what the defs promise -/
def sp_law_bytes (K : PySem.W.Frag) (_ : World) : Sp := fun vs H Q _ => ∃ (p : Addr) (op : Op), vs = [.ref p] ∧ SqT K H p op.vals ∧ op.Ok ∧ ∀ l H', Same H H' → H l = none → H' l = some (.lst (op.bytes.map V.int)) → Q (.ref l) H'
/-- a row in the heap, not the spring -/
def RowV (H : Hp) (r : Addr) (v : V) : Prop := ∃ (p : Addr) (op : Op), v = .ref p ∧ p ≠ r ∧ H p = some (.tup op.vals) ∧ op.Ok
def sp_law_drawn_row (_ : PySem.W.Frag) (_ : World) : Sp := fun vs H Q _ => ∃ r : Addr, vs = [.ref r] ∧ Spr H r ∧ ∀ v H', Fx r H H' → Spr H' r → RowV H' r v → Q v H'
/-- a new list of bytes -/
def spBy (N : Nat) : Sp := fun vs H Q _ => ∃ r : Addr, vs = [.ref r] ∧ Spr H r ∧ ∀ p H' ds, H p = none → p ≠ r → Fx r H H' → Spr H' r → H' p = some (.lst (ds.map V.int)) → By ds → 1 ≤ ds.length → ds.length ≤ N → Q (.ref p) H'
def sp_law_laid (_ : PySem.W.Frag) (_ : World) : Sp := fun vs H Q _ => ∃ (r l : Addr) (xs : List V), vs = [.ref r, .ref l] ∧ Spr H r ∧ l ≠ r ∧ H l = some (.lst xs) ∧ (∀ v ∈ xs, RowV H r v) ∧ 1 ≤ xs.length ∧ xs.length ≤ 100 ∧
  ∀ p H' ds, H p = none → p ≠ r → Fx r H H' → Spr H' r → H' p = some (.lst (ds.map V.int)) → By ds → 1 ≤ ds.length → ds.length ≤ 200 → Q (.ref p) H'
def sp_law_code (_ : PySem.W.Frag) (_ : World) : Sp := spBy 200
section
variable {K : PySem.W.Frag} {w : World} {vs : List V} {H : Hp} {Q : VK} {E : XK}
theorem len_law_bytes (h : sp_law_bytes K w vs H Q E) : vs.length = 1 := by
  obtain ⟨_, _, rfl, _⟩ := h
  rfl
theorem len_law_drawn_row (h : sp_law_drawn_row K w vs H Q E) : vs.length = 1 := by
  obtain ⟨_, rfl, _⟩ := h
  rfl
theorem len_law_laid (h : sp_law_laid K w vs H Q E) : vs.length = 2 := by
  obtain ⟨_, _, _, rfl, _⟩ := h
  rfl
theorem len_law_code (h : sp_law_code K w vs H Q E) : vs.length = 1 := by
  obtain ⟨_, rfl, _⟩ := h
  rfl
end
theorem RowV.fx {H H' : Hp} {r : Addr} {v : V} (h : RowV H r v) (f : Fx r H H') : RowV H' r v := by
  obtain ⟨p, op, e, n, g, ok⟩ := h
  exact ⟨p, op, e, n, f.at n g, ok⟩
theorem RowV.same {H H' : Hp} {r : Addr} {v : V} (h : RowV H r v) (f : Same H H') : RowV H' r v := by
  obtain ⟨p, op, e, n, g, ok⟩ := h
  exact ⟨p, op, e, n, f _ _ g, ok⟩
theorem RowV.mut {H : Hp} {r l : Addr} {v : V} {xs : List V} {o : HO} (h : RowV H r v) (hl : H l = some (.lst xs)) : RowV (upd H l o) r v := by
  obtain ⟨p, op, e, n, g, ok⟩ := h
  exact ⟨p, op, e, n, upd_mut (fun z => by rw [z, hl] at g; cases g) g, ok⟩
end Rl
namespace Rl
open PySem PySem.Spec PyProof.Rows L2
/-- _law_bytes: slots 0 _law_row, 1 _law_word, 2 _law_box, 3 _law_some, 4 _law_first -/
def t_law_bytes (K : PySem.W.Frag) (w : World) : TS :=
  (tSeq (tAsg (tOp (rIx K) (tVar 0) (tC (.int 0))) (gName 1)) (tSeq (tIfS (tTest (tOp ((rIn K false)) (tVar 1) (tLst (tCons (tC (.str "halt")) (tCons (tC (.str "back")) (tCons (tC (.str "rest")) tNil)))))) (tRet (tLst (tCons (tBM K "list" (rIndex K) (tLst (tCons (tC (.str "halt")) (tCons (tC (.str "back")) (tCons (tC (.str "rest")) tNil)))) (tCons (tVar 1) tNil)) tNil))) tNext) (tSeq (tIfS (tTest (tOp ((rIn K false)) (tVar 1) (tLst (tCons (tC (.str "go")) (tCons (tC (.str "zero")) (tCons (tC (.str "nonzero")) (tCons (tC (.str "less")) (tCons (tC (.str "notless")) (tCons (tC (.str "call")) tNil))))))))) (tRet (tLst (tCons (tOp (rAddA K) (tC (.int 224)) (tBM K "list" (rIndex K) (tLst (tCons (tC (.str "go")) (tCons (tC (.str "zero")) (tCons (tC (.str "nonzero")) (tCons (tC (.str "less")) (tCons (tC (.str "notless")) (tCons (tC (.str "call")) tNil))))))) (tCons (tVar 1) tNil))) (tCons (tOp (rIx K) (tVar 0) (tC (.int 1))) tNil)))) tNext) (tSeq (tAsg (tOp (rMulA) (tC (.int 4)) (tBM K "str" rStrIx (tC (.str "abcd")) (tCons (tOp (rIx K) (tVar 0) (tC (.int 1))) tNil))) (gName 2)) (tSeq (tIfS (tTest (tOp ((rIn K false)) (tVar 1) (tLst (tCons (tC (.str "in")) (tCons (tC (.str "out")) (tCons (tC (.str "keep")) (tCons (tC (.str "take")) tNil))))))) (tRet (tLst (tCons (tOp (rAddA K) (tOp (rAddA K) (tC (.int 240)) (tVar 2)) (tBM K "list" (rIndex K) (tLst (tCons (tC (.str "in")) (tCons (tC (.str "out")) (tCons (tC (.str "keep")) (tCons (tC (.str "take")) tNil))))) (tCons (tVar 1) tNil))) tNil))) tNext) (tSeq (tAsg (tLst (tCons (tC (.str "set")) (tCons (tC (.str "copy")) (tCons (tC (.str "add")) (tCons (tC (.str "sub")) (tCons (tC (.str "and")) (tCons (tC (.str "or")) (tCons (tC (.str "xor")) (tCons (tC (.str "test")) (tCons (tC (.str "testn")) (tCons (tC (.str "load")) (tCons (tC (.str "store")) (tCons (tC (.str "loadn")) (tCons (tC (.str "storen")) tNil)))))))))))))) (gName 3)) (tSeq (tAsg (tOp (rAddA K) (tOp (rAddA K) (tC (.int 16)) (tOp (rMulA) (tC (.int 16)) (tBM K "list" (rIndex K) (tVar 3) (tCons (tVar 1) tNil)))) (tVar 2)) (gName 4)) (tSeq (tIfS (tTest (tOp ((rIn K false)) (tVar 1) (tLst (tCons (tC (.str "set")) (tCons (tC (.str "testn")) (tCons (tC (.str "loadn")) (tCons (tC (.str "storen")) tNil))))))) (tRet (tLst (tCons (tVar 4) (tCons (tOp (rIx K) (tVar 0) (tC (.int 2))) tNil)))) tNext) (tRet (tLst (tCons (tOp (rAddA K) (tVar 4) (tBM K "str" rStrIx (tC (.str "abcd")) (tCons (tOp (rIx K) (tVar 0) (tC (.int 2))) tNil))) tNil)))))))))))
abbrev N_law_bytes : List Str := ["_law_row", "_law_word", "_law_box", "_law_some", "_law_first"]

/-- _law_drawn_row: slots 0 _law_spring_here, 1 _law_r, 2 _law_s, 3 _law_n, 4 _law_pick, 5 _law_some -/
def t_law_drawn_row (K : PySem.W.Frag) (w : World) : TS :=
  (tSeq (tPar 1 2 (tCons (tOp (rIx K) (tC (.str "abcd")) (tCall (sp_law_draw K w) [] E0 (tCons (tVar 0) (tCons (tC (.int 4)) tNil)))) (tCons (tOp (rIx K) (tC (.str "abcd")) (tCall (sp_law_draw K w) [] E0 (tCons (tVar 0) (tCons (tC (.int 4)) tNil)))) tNil))) (tSeq (tAsg (tOp (rIx K) (tLst (tCons (tCall (sp_law_draw K w) [] E0 (tCons (tVar 0) (tCons (tC (.int 4)) tNil))) (tCons (tCall (sp_law_draw K w) [] E0 (tCons (tVar 0) (tCons (tC (.int 256)) tNil))) (tCons (tOp (rSubA) (tC (.int 255)) (tCall (sp_law_draw K w) [] E0 (tCons (tVar 0) (tCons (tC (.int 3)) tNil)))) tNil)))) (tCall (sp_law_draw K w) [] E0 (tCons (tVar 0) (tCons (tC (.int 3)) tNil)))) (gName 3)) (tSeq (tAsg (tCall (sp_law_draw K w) [] E0 (tCons (tVar 0) (tCons (tC (.int 12)) tNil))) (gName 4)) (tSeq (tIfS (tTest (tOp (rLtA) (tVar 4) (tC (.int 2)))) (tRet (tTup (tCons (tOp (rIx K) (tLst (tCons (tC (.str "set")) (tCons (tC (.str "testn")) (tCons (tC (.str "loadn")) (tCons (tC (.str "storen")) tNil))))) (tCall (sp_law_draw K w) [] E0 (tCons (tVar 0) (tCons (tC (.int 4)) tNil)))) (tCons (tVar 1) (tCons (tVar 3) tNil))))) tNext) (tSeq (tIfS (tTest (tOp (rLtA) (tVar 4) (tC (.int 6)))) (tSeq (tAsg (tLst (tCons (tC (.str "copy")) (tCons (tC (.str "add")) (tCons (tC (.str "sub")) (tCons (tC (.str "and")) (tCons (tC (.str "or")) (tCons (tC (.str "xor")) (tCons (tC (.str "test")) (tCons (tC (.str "load")) (tCons (tC (.str "store")) tNil)))))))))) (gName 5)) (tRet (tTup (tCons (tOp (rIx K) (tVar 5) (tCall (sp_law_draw K w) [] E0 (tCons (tVar 0) (tCons (tC (.int 9)) tNil)))) (tCons (tVar 1) (tCons (tVar 2) tNil)))))) tNext) (tSeq (tIfS (tTest (tOp (rLtA) (tVar 4) (tC (.int 9)))) (tRet (tTup (tCons (tOp (rIx K) (tLst (tCons (tC (.str "go")) (tCons (tC (.str "zero")) (tCons (tC (.str "nonzero")) (tCons (tC (.str "less")) (tCons (tC (.str "notless")) (tCons (tC (.str "call")) tNil))))))) (tCall (sp_law_draw K w) [] E0 (tCons (tVar 0) (tCons (tC (.int 6)) tNil)))) (tCons (tC (.int 0)) tNil)))) tNext) (tSeq (tIfS (tTest (tOp (rLtA) (tVar 4) (tC (.int 11)))) (tRet (tTup (tCons (tOp (rIx K) (tLst (tCons (tC (.str "in")) (tCons (tC (.str "out")) (tCons (tC (.str "keep")) (tCons (tC (.str "take")) tNil))))) (tCall (sp_law_draw K w) [] E0 (tCons (tVar 0) (tCons (tC (.int 4)) tNil)))) (tCons (tVar 1) tNil)))) tNext) (tRet (tTup (tCons (tOp (rIx K) (tLst (tCons (tC (.str "halt")) (tCons (tC (.str "back")) (tCons (tC (.str "rest")) tNil)))) (tCall (sp_law_draw K w) [] E0 (tCons (tVar 0) (tCons (tC (.int 3)) tNil)))) tNil))))))))))
abbrev N_law_drawn_row : List Str := ["_law_spring_here", "_law_r", "_law_s", "_law_n", "_law_pick", "_law_some"]

/-- _law_laid: slots 0 _law_spring_here, 1 _law_rows, 2 _law_starts, 3 _law_far, 4 _law_row, 5 _law_code_here, 6 _law_at -/
def t_law_laid (K : PySem.W.Frag) (w : World) : TS :=
  (tSeq (tAsg (tLst tNil) (gName 2)) (tSeq (tAsg (tC (.int 0)) (gName 3)) (tSeq (tFor (iSeq K (tVar 1)) (gName 4) (tSeq (tDrop (tBM K "list" rAppend (tVar 2) (tCons (tVar 3) tNil))) (tAsg (tOp (rAddA K) (tVar 3) (tCB (rLenA K) (tCons (tCall (sp_law_bytes K w) [] E0 (tCons (tVar 4) tNil)) tNil))) (gName 3)))) (tSeq (tAsg (tLst tNil) (gName 5)) (tSeq (tFor (iSeq K (tVar 1)) (gName 4) (tSeq (tIfS (tAnd (tTest (tOp (rEqA K) (tCB (rLenA K) (tCons (tVar 4) tNil)) (tC (.int 2)))) (tB (tCB (rIsi K) (tCons (tOp (rIx K) (tVar 4) (tC (.int 1))) (tCons (tC (.ty "int")) tNil))))) (tSeq (tAsg (tOp (rIx K) (tVar 2) (tCall (sp_law_draw K w) [] E0 (tCons (tVar 0) (tCons (tCB (rLenA K) (tCons (tVar 2) tNil)) tNil)))) (gName 6)) (tAsg (tTup (tCons (tOp (rIx K) (tVar 4) (tC (.int 0))) (tCons (tOp (rIx K) (tLst (tCons (tVar 6) (tCons (tVar 6) (tCons (tVar 6) (tCons (tVar 6) (tCons (tCall (sp_law_draw K w) [] E0 (tCons (tVar 0) (tCons (tCB (rMin2) (tCons (tC (.int 256)) (tCons (tOp (rAddA K) (tVar 3) (tC (.int 3))) tNil))) tNil))) tNil)))))) (tCall (sp_law_draw K w) [] E0 (tCons (tVar 0) (tCons (tC (.int 5)) tNil)))) tNil))) (gName 4))) tNext) (tAsg (tOp (rAddA K) (tVar 5) (tCall (sp_law_bytes K w) [] E0 (tCons (tVar 4) tNil))) (gName 5)))) (tRet (tVar 5)))))))
abbrev N_law_laid : List Str := ["_law_spring_here", "_law_rows", "_law_starts", "_law_far", "_law_row", "_law_code_here", "_law_at"]

/-- _law_code: slots 0 _law_spring_here, 1 _law_pick, 2 _law_turn, 3 _law_most, 4 _law_code_here -/
def t_law_code (K : PySem.W.Frag) (w : World) : TS :=
  (tSeq (tAsg (tCall (sp_law_draw K w) [] E0 (tCons (tVar 0) (tCons (tC (.int 8)) tNil))) (gName 1)) (tSeq (tIfS (tTest (tOp (rEqA K) (tVar 1) (tC (.int 0)))) (tRet (tLc (iRng1 (tCons (tOp (rAddA K) (tC (.int 1)) (tCall (sp_law_draw K w) [] E0 (tCons (tVar 0) (tCons (tOp (rIx K) (tLst (tCons (tC (.int 8)) (tCons (tC (.int 60)) tNil))) (tCall (sp_law_draw K w) [] E0 (tCons (tVar 0) (tCons (tC (.int 2)) tNil)))) tNil)))) tNil)) (gName 2) tYes (tCall (sp_law_draw K w) [] E0 (tCons (tVar 0) (tCons (tC (.int 256)) tNil))) [2])) tNext) (tSeq (tAsg (tOp (rIx K) (tLst (tCons (tC (.int 6)) (tCons (tC (.int 12)) (tCons (tC (.int 30)) (tCons (tC (.int 100)) tNil))))) (tCall (sp_law_draw K w) [] E0 (tCons (tVar 0) (tCons (tC (.int 4)) tNil)))) (gName 3)) (tSeq (tAsg (tSl (rSlA K) (tCall (sp_law_laid K w) [] E0 (tCons (tVar 0) (tCons (tLc (iRng1 (tCons (tOp (rAddA K) (tC (.int 1)) (tCall (sp_law_draw K w) [] E0 (tCons (tVar 0) (tCons (tVar 3) tNil)))) tNil)) (gName 2) tYes (tCall (sp_law_drawn_row K w) [] E0 (tCons (tVar 0) tNil)) [2]) tNil))) tNoPart (tPart (tC (.int 200)))) (gName 4)) (tSeq (tIfS (tTest (tOp (rEqA K) (tVar 1) (tC (.int 1)))) (tAsg (tCall (sp_law_draw K w) [] E0 (tCons (tVar 0) (tCons (tC (.int 256)) tNil))) (gSub (tVar 4) (tCall (sp_law_draw K w) [] E0 (tCons (tVar 0) (tCons (tCB (rLenA K) (tCons (tVar 4) tNil)) tNil))) rSetL)) tNext) (tRet (tVar 4)))))))
abbrev N_law_code : List Str := ["_law_spring_here", "_law_pick", "_law_turn", "_law_most", "_law_code_here"]

end Rl
namespace Rl
open PySem PySem.Spec PyProof.Rows L2
/-! ## defs with defaults, called by keywords; methods; written dicts with text keys -/
/-- a def called with n values in their places and keywords named ks -/
structure ClN (P : Program) (w : World) (K : PySem.W.Frag) (mg : Str → Option Value) (base : Heap) (k : Nat) (x : Str) (n : Nat) (ks : List Str) (gV : List V → List V → List V) (sp : Sp) : Prop where
  ex : ∃ (f : Addr) (fd : FuncData) (ps : List Str) (g : List Value → List Value → List Value), FnOk P w K mg base CX0 k f fd ps sp ∧ mg x = some (.ref f) ∧ PySem.W.keepIn K (.ref f) = true ∧ KBn K fd ps n ks g gV
/-- the keywords' values behind the others -/
def gVc (vs zs : List V) : List V := vs ++ zs
section
variable {X : Cx} {k j n : Nat} {x : Str} {sp : Sp} {p pos : Pos} {e : Expr} {es : List Expr} {kws : List Keyword} {ks : List Str} {t tk : TA} {gV : List V → List V → List V}
theorem pe_cln {m : Nat} (c : ClN X.prog X.w X.K X.mg X.base k x n ks gV sp) (hr : Room j X.A) (hk : k ≤ j) (hg : Gl X x) (ha : PA X (e :: es) t) (hkw : PK X kws tk) (hm : ks.length = m := by rfl)
    (hall : (backToKw pos (keywordEach kws X.env)).all (·.1.isSome) = true := by rfl) (hks : (backToKw pos (keywordEach kws X.env)).filterMap (·.1) = ks := by rfl)
    (hdb : (x == ("__debug__" : Str)) = false := by decide) (he : starEach (e :: es) X.env = (false, eval e X.env) :: starEach es X.env := by rfl)
    (hpl : ((backTo pos (starEach (e :: es) X.env)).any (·.1) || (backToKw pos (keywordEach kws X.env)).any (·.1.isNone)) = false := by rfl) :
    PE X (.Call (.Name x p) (e :: es) kws pos) (tCallN n m sp gV E0 t tk) := by
  subst hm
  obtain ⟨f, fd, ps, g, F, hm, kp, b⟩ := c.ex
  exact pe_callN F (hr.mono hk) hg hm kp b pass0 ha hkw hall hks hdb he hpl
end
section
variable {P : Program} {w : World} {K : PySem.W.Frag} {mg : Str → Option Value} {base : Heap}
theorem Cl.mono {k j : Nat} {x : Str} {sp : Sp} (c : Cl P w K mg base k x sp) (h : k ≤ j) : Cl P w K mg base j x sp := by
  obtain ⟨f, fd, ps, F, r⟩ := c.ex
  exact ⟨f, fd, ps, F.mono h, r⟩
/-- a def's promise, its defaults and names any -/
theorem fo_of {x q : Str} {st : Stmt} {f : Addr} {fd : FuncData} {N ps : List Str} {k : Nat} {sp : Sp} {dvs : List V} {kws : List (Str × V)} (D : FunD K x q (defArgs st) (defBody st) (defScope st) dvs kws f fd) (S : FnScope N ps (defScope st)) (len : ∀ vs H Q E, sp vs H Q E → vs.length = ps.length)
    (hbody : ∀ (cdv : Value) (A : Around) (outer : List Env) (s : Shared) (H : Hp) (vs : List V) (Q : VK) (E : XK), Room k (A.deeper (envOfC q (defScope st) s.heap.objs.size f cdv)) → sp vs H Q E →
      ∃ t, PSs (cxOf CX0 P w K mg base N q (defScope st) f cdv A outer s H E) (defBody st) t ∧ t { nx := fun _ H' => Q .non H', rt := Q } (start N vs) H) : FnOk P w K mg base CX0 (k + 1) f fd ps sp :=
  FunD.ok D S len hbody
/-- keywords for all that is keyword-only, all others in their places -/
theorem kbc {x q : Str} {st : Stmt} {f : Addr} {fd : FuncData} {ps : List Str} {n : Nat} {ks : List Str} {dvs : List V} {kws : List (Str × V)} (D : FunD K x q (defArgs st) (defBody st) (defScope st) dvs kws f fd) (hd : dvs ≠ []) (hk : kws ≠ [])
    (h : ∀ (T D : Addr) (doc pm : Value) (an : Option Addr) (cdv ct : Value) (us its ws : List Value), us.length = n → its.length = dvs.length → ws.length = ks.length →
      ∃ k, bindArgs (PySem.W.fnOf x q (defArgs st) (defBody st) (defScope st) (.ref T) (.ref D) doc pm an cdv ct) ⟨us, ks.zip ws⟩ = seqItems? (.ref T) >>= k ∧ k (some its.toArray) = pure (ps.zip (us ++ ws))) : ∃ g, KBn K fd ps n ks g gVc := by
  obtain ⟨its, mv, b⟩ := D.kbinds n ks [] (fun us _ _ ws => us ++ ws) hd hk (fun _ z => nomatch z) (fun a _ _ b => a.append b) fun T D doc pm an cdv ct us its mv ws h1 h2 _ h4 => by
    obtain ⟨k, e1, e2⟩ := h T D doc pm an cdv ct us its ws h1 h2 h4
    exact ⟨k, e1, e2⟩
  exact ⟨_, b⟩
end
namespace R
theorem callN {σ : L2.St} {H : Hp} {Q : VK} {n m : Nat} {sp : Sp} {gV : List V → List V → List V} {E : XK} {t tk : TA} (q : t σ H fun vs H1 => tk σ H1 fun zs H2 => vs.length = n ∧ zs.length = m ∧ sp (gV vs zs) H2 Q E) : tCallN n m sp gV E t tk σ H Q := q
end R
/-- a written dict with text keys: a look that the head can take -/
def kdS (K : PySem.W.Frag) (a : Addr) (kvs : List (Str × He.Dv)) : Bool := match K.lookup a with
  | some ⟨.type c, none, .dict es _, sl⟩ => decide (c = "dict") && (sl.isEmpty && (!(a == sysModules) && kdAll K es.toList kvs))
  | _ => false
where
  kdAll (K : PySem.W.Frag) : List DictEntry → List (Str × He.Dv) → Bool
    | [], [] => true
    | e :: es, (k, d) :: r => (match e.key with
      | .str j _ => decide (j = k)
      | _ => false) && (He.relB (d.v K) e.val && kdAll K es r)
    | _, _ => false
theorem kdS_find {K : PySem.W.Frag} {w : World} (P : Program) : ∀ {es : List DictEntry} {kvs : List (Str × He.Dv)}, kdS.kdAll K es kvs = true → PySem.W.KeysLit w.params es →
    (∀ e ∈ es, ∃ k, (mixKind P w).is k e.key = true ∧ e.hash = (mixKind P w).hash k) ∧
    ∀ k, RelO (valV (kvs.map fun p => ((Sum.inr p.1 : Key), p.2.v K)) k) ((es.find? fun e => (mixKind P w).is k e.key).map (·.val))
  | [], [], _, _ => ⟨fun e he => (by cases he), fun k => True.intro⟩
  | e :: es, (j, d) :: r, h, ⟨⟨x, u, lk, lh⟩, ls⟩ => by
    obtain ⟨h1, h2⟩ := He.ba (show ((match e.key with
      | .str i _ => decide (i = j)
      | _ => false) && (He.relB (d.v K) e.val && kdS.kdAll K es r)) = true from h)
    obtain ⟨h5, h6⟩ := He.ba h2
    obtain ⟨i1, i2⟩ := kdS_find (w := w) P h6 ls
    rw [lk] at h1
    have ej : x = j := of_decide_eq_true h1
    subst ej
    have e1 : (mixKind P w).is (Sum.inr x : Key) e.key = true := by
      rw [lk]
      exact keyIs_str x u
    refine ⟨fun e' he => ?_, fun k => ?_⟩
    · rcases List.mem_cons.mp he with q | q
      · rw [q]
        exact ⟨Sum.inr x, e1, lh⟩
      · exact i1 e' q
    · rw [List.map_cons]
      by_cases q : (Sum.inr x : Key) = k
      · have q2 : (mixKind P w).is k e.key = true := by rw [← q]; exact e1
        rw [List.find?_cons_of_pos (p := fun (e : DictEntry) => (mixKind P w).is k e.key) q2, valV_pos (p := ((Sum.inr x : Key), d.v K)) q]
        exact He.relB_ok h5
      · have q2 : ¬ (mixKind P w).is k e.key = true := fun z => q ((mixKind P w).inj _ _ _ e1 z)
        rw [List.find?_cons_of_neg (p := fun (e : DictEntry) => (mixKind P w).is k e.key) q2, valV_neg (p := ((Sum.inr x : Key), d.v K)) q]
        exact i2 k
  | [], _ :: _, h, _ => by cases h
  | _ :: _, [], h, _ => by cases h
theorem kdS_ok {K : PySem.W.Frag} {w : World} {a : Addr} {kvs : List (Str × He.Dv)} (h : kdS K a kvs = true) (D : ∃ es n, KDict K w a es n) : KD K w a (kvs.map fun p => (Sum.inr p.1, p.2.v K)) := by
  obtain ⟨es, n, D⟩ := D
  obtain ⟨q, lit, sys⟩ := D
  unfold kdS at h
  rw [q] at h
  obtain ⟨h1, h2⟩ := He.ba h
  obtain ⟨h3, h4⟩ := He.ba h2
  obtain ⟨h5, h6⟩ := He.ba h4
  refine ⟨sys, fun P hp X => ?_⟩
  obtain ⟨i1, i2⟩ := kdS_find (w := w) P h6 lit
  refine ⟨fun k => findBy (mixKind P w).is es k, ⟨_, es, n, X _ _ q, ⟨rfl, rfl, rfl⟩, rfl, fun e he => i1 e (Array.mem_toList_iff.mpr he), fun k => rfl⟩, fun k => ?_⟩
  have z := i2 k
  obtain ⟨l⟩ := es
  show RelO _ ((Array.find? (fun e => (mixKind P w).is k e.key) l.toArray).map (·.val))
  rw [List.find?_toArray]
  exact z
end Rl
namespace Rl
open PySem PySem.Spec PyProof.Rows L2
/-- short_row: slots 0 first, 1 kind, 2 box, 3 last -/
def t_short_row (K : PySem.W.Frag) (w : World) : TS :=
  (tSeq (tPar3 1 2 3 (tCons (tOp (rShrA) (tVar 0) (tC (.int 4))) (tCons (tOp (rIx K) (tC (.str "abcd")) (tOp (rAndA) (tOp (rShrA) (tVar 0) (tC (.int 2))) (tC (.int 3)))) (tCons (tOp (rAndA) (tVar 0) (tC (.int 3))) tNil)))) (tSeq (tIfS (tTest (tOp (rLtA) (tVar 0) (tCB (rLenA K) (tCons (tC (.ref (He.ga K "ALONE"))) tNil)))) (tRet (tTup (tCons (tOp (rIx K) (tC (.ref (He.ga K "ALONE"))) (tVar 0)) tNil))) tNext) (tSeq (tIfS (tTest (tOp (rEqA K) (tVar 1) (tC (.int 15)))) (tRet (tTup (tCons (tOp (rIx K) (tC (.ref (He.ga K "SINGLE"))) (tVar 3)) (tCons (tVar 2) tNil)))) tNext) (tSeq (tIfS (tTest (tOp (rInKD K w) (tVar 1) (tC (.ref (He.ga K "WORDS_OF_PAIRS"))))) (tRet (tTup (tCons (tOp (rIxKD K w) (tC (.ref (He.ga K "WORDS_OF_PAIRS"))) (tVar 1)) (tCons (tVar 2) (tCons (tOp (rIx K) (tC (.str "abcd")) (tVar 3)) tNil))))) tNext) (tRet (tC .non))))))
abbrev N_short_row : List Str := ["first", "kind", "box", "last"]

/-- long_row: slots 0 first, 1 n, 2 kind, 3 box, 4 last -/
def t_long_row (K : PySem.W.Frag) (w : World) : TS :=
  (tSeq (tPar3 2 3 4 (tCons (tOp (rShrA) (tVar 0) (tC (.int 4))) (tCons (tOp (rIx K) (tC (.str "abcd")) (tOp (rAndA) (tOp (rShrA) (tVar 0) (tC (.int 2))) (tC (.int 3)))) (tCons (tOp (rAndA) (tVar 0) (tC (.int 15))) tNil)))) (tSeq (tIfS (tAnd (tTest (tOp (rEqA K) (tVar 2) (tC (.int 14)))) (tTest (tOp (rLtA) (tVar 4) (tCB (rLenA K) (tCons (tC (.ref (He.ga K "TARGETS"))) tNil))))) (tRet (tTup (tCons (tOp (rIx K) (tC (.ref (He.ga K "TARGETS"))) (tVar 4)) (tCons (tVar 1) tNil)))) tNext) (tSeq (tIfS (tAnd (tTest (tOp (rInKD K w) (tVar 2) (tC (.ref (He.ga K "WORDS_OF_NUMBERED"))))) (tTest (tOp (rEqA K) (tOp (rAndA) (tVar 4) (tC (.int 3))) (tC (.int 0))))) (tRet (tTup (tCons (tOp (rIxKD K w) (tC (.ref (He.ga K "WORDS_OF_NUMBERED"))) (tVar 2)) (tCons (tVar 3) (tCons (tVar 1) tNil))))) tNext) (tRet (tC .non)))))
abbrev N_long_row : List Str := ["first", "n", "kind", "box", "last"]

/-- row_at: slots 0 code, 1 address, 2 row -/
def t_row_at (K : PySem.W.Frag) (w : World) : TS :=
  (tSeq (tIfS (tNot (tTest (tChain (rLeA) (rLtA) (tC (.int 0)) (tVar 1) (tCB (rLenA K) (tCons (tVar 0) tNil))))) (tRet (tC .non)) tNext) (tSeq (tAsg (tCall (sp_short_row K w) [] E0 (tCons (tOp (rIx K) (tVar 0) (tVar 1)) tNil)) (gName 2)) (tSeq (tIfS (tTest (tOp (rNotN) (tVar 2) (tC .non))) (tRet (tTup (tCons (tVar 2) (tCons (tC (.int 1)) tNil)))) tNext) (tSeq (tAsg (tIf (tTest (tOp (rLtA) (tOp (rAddA K) (tVar 1) (tC (.int 1))) (tCB (rLenA K) (tCons (tVar 0) tNil)))) (tCall (sp_long_row K w) [] E0 (tCons (tOp (rIx K) (tVar 0) (tVar 1)) (tCons (tOp (rIx K) (tVar 0) (tOp (rAddA K) (tVar 1) (tC (.int 1)))) tNil))) (tC .non)) (gName 2)) (tRet (tIf (tTest (tOp (rNotN) (tVar 2) (tC .non))) (tTup (tCons (tVar 2) (tCons (tC (.int 2)) tNil))) (tC .non)))))))
abbrev N_row_at : List Str := ["code", "address", "row"]

end Rl
namespace Rl
open PySem PySem.Spec PySem.W PyProof.Rows L2 MeetsSeq
/-! ## set(xs), xs a list of ints -/
section
variable {P : Program} {w : World} {A : Around} {E : Value → Shared → Prop} {s : Shared}
/-- a set without members, just made -/
abbrev newSet (w : World) : Obj := { cls := .type "set", dict := none, data := .set #[] 0 (.fresh 0 0 (!w.params.followText "set-order")) }
/-- its __init__ over a list -/
theorem init_list {l : Addr} {items : Array Value} {ns : List Int} {R : Result → Shared → Prop} (hh : A.handled = none) (hl : s.heap.IsList l items) (hit : IntsAre items.toList ns) (hz : items.size = ns.length) (hb : ns.length + 1 < scanBound)
    (q : ∀ (h' : Heap) (tk c : Nat), SetR w h' s.heap.objs.size (fun j => decide (j ∈ ns)) c → c ≤ ns.length → (∀ b o, s.heap.get? b = some o → h'.get? b = some o) → R (.ok (.ret .none)) { s with heap := h', toks := tk }) :
    codeAny (model P w) A (.call (.builtin "set.__init__") ⟨[.ref s.heap.objs.size, .ref l], []⟩) R { s with heap := s.heap.push (newSet w) } := by
  have gS : (s.heap.push (newSet w)).get? s.heap.objs.size = some (newSet w) := Heap.get?_push_size _ rfl
  have tS : Shared.TypeIs { s with heap := s.heap.push (newSet w) } (.ref s.heap.objs.size) "set" := ⟨_, gS, rfl⟩
  refine codeAny_call_builtin F.called_set.init.plain F.entry_set_init (check_set_init_1 tS ?_)
  obtain ⟨ol, gl, cl, nl, dl⟩ := hl
  obtain ⟨c0, d0, x0, y0⟩ := ol
  simp only at cl dl
  subst cl; subst dl
  have ls : l < s.heap.objs.size := Heap.lt_size gl
  have gl' : (s.heap.push (newSet w)).get? l = some { cls := .type "list", dict := d0, data := .seq items nl, slots := y0 } := Heap.get?_push_of_some _ gl
  have isl : (s.heap.push (newSet w)).IsList l items := ⟨_, gl', rfl, nl, rfl⟩
  have e1 := F.sub_list_set
  have e2 := F.sub_list_frozenset
  have e3 : (Value.type "list" == Value.type "dict") = false := by decide
  unfold Builtin.«set.__init__» noKeywords Builtin.Frozenset.updateFrom
  generalize hI : pyIter = PI
  wp_walk
  subst hI
  refine wpAny_pyIter_list isl (wpAny_bind (wpAny_runValue ?_))
  have z1 : (s.heap.push (newSet w)).objs.size = s.heap.objs.size + 1 := Heap.size_push ..
  have nI : l ≠ (s.heap.push (newSet w)).objs.size := by rw [z1]; exact Nat.ne_of_lt (Nat.lt_succ_of_lt ls)
  have nS : s.heap.objs.size ∉ [(s.heap.push (newSet w)).objs.size, l] := by
    rw [z1]
    simp only [List.mem_cons, List.not_mem_nil, or_false, not_or]
    exact ⟨Nat.ne_of_lt (Nat.lt_succ_self _), Nat.ne_of_gt ls⟩
  have hv : ∀ (i : Nat) (v : Value), items[i]? = some v → ∃ k t, ns[i]? = some k ∧ v = .int k t := fun i v h => by
    have li : i < ns.length := by
      have := (Array.getElem?_eq_some_iff.mp h).1
      omega
    obtain ⟨t, e⟩ := IntsAre.int_at hit i v (by rw [Array.getElem?_toList]; exact h)
    rw [List.getD_eq_getElem?_getD, List.getElem?_eq_getElem li] at e
    exact ⟨ns[i], t, List.getElem?_eq_getElem li, e⟩
  refine set_update_ints ((Walks.list (by simp [hh]) _ l nI items).toS) s.heap.objs.size nS ns hz hb hv items.size 0 _ (Nat.sub_zero _) (Nat.zero_le _) ⟨⟨_, Heap.get?_push_size _ rfl, rfl, rfl⟩, isl.push _⟩ ⟨0, Nat.le_refl 0, setR_new_at (Heap.get?_push_of_some _ gS)⟩ fun s' c' hm hc hS => ?_
  obtain ⟨h', g', d', tk', os'⟩ := s'
  obtain rfl : g' = s.gens := hm.gens
  obtain rfl : d' = s.drawn := hm.drawn
  obtain rfl : os' = s.os := hm.os
  show wpAny _ _ (pure _) _ _ _
  refine wpAny_pure (wpAny_pure (q h' tk' c' hS (by omega) fun b o e => ?_))
  have lb := Heap.lt_size e
  refine hm.heap b o ?_ (Heap.get?_push_of_some _ (Heap.get?_push_of_some _ e))
  rw [z1]
  simp only [List.mem_cons, List.not_mem_nil, or_false, not_or]
  exact ⟨Nat.ne_of_lt lb, Nat.ne_of_lt (Nat.lt_succ_of_lt lb)⟩
theorem call_setL {l : Addr} {items : Array Value} {ns : List Int} {Q : Value → Shared → Prop} (hh : A.handled = none) (hl : s.heap.IsList l items) (hit : IntsAre items.toList ns) (hz : items.size = ns.length) (hb : ns.length + 1 < scanBound)
    (q : ∀ (h' : Heap) (tk c : Nat), SetR w h' s.heap.objs.size (fun j => decide (j ∈ ns)) c → c ≤ ns.length → (∀ b o, s.heap.get? b = some o → h'.get? b = some o) → Q (.ref s.heap.objs.size) { s with heap := h', toks := tk }) :
    wpAny (model P w) A (call (.type "set") [.ref l]) Q E s := by
  obtain ⟨c, tl, mro⟩ := F.called_set.mro
  have made := F.called_set.made
  have sub := F.called_set.sub
  have nt := F.called_set.notType
  have cc := F.called_set.canCreate
  have tc := F.typeCall_set_1 (.ref l)
  refine wpAny_call (codeAny_of_tree ?_)
  show wpAny _ _ (callAny (.type "set") _) _ _ _
  refine wpAny_pure ⟨Code.quiet_builtin _ (by decide +kernel), codeAny_builtin F.entry_type_call ?_⟩
  rw [Around.under_plain (weight_type_call_type "set" [.ref l] []) rfl]
  repeat (any_goals (first | assumption | wp_step))
  refine codeAny_mono (code_set_led1 (.ref l) (E := E) (Q₁ := fun obj s₁ => obj = .ref s.heap.objs.size ∧ s₁ = { s with heap := s.heap.push (newSet w) }) ⟨rfl, rfl⟩) fun r s1 hr => ?_
  match r, hr with
  | .ok (.ret obj), ⟨e1, e2⟩ =>
    subst e1 e2
    have tS : Shared.TypeIs { s with heap := s.heap.push (newSet w) } (.ref s.heap.objs.size) "set" := ⟨_, Heap.get?_push_size _ rfl, rfl⟩
    have li := F.called_set.init.lookup
    have bi := F.called_set.init.bind (.ref s.heap.objs.size)
    repeat (any_goals (first | assumption | wp_step))
    refine codeAny_mono (init_list (R := wants (fun r s₂ => r = .none ∧ ∃ h' tk c, s₂ = { s with heap := h', toks := tk } ∧ SetR w h' s.heap.objs.size (fun j => decide (j ∈ ns)) c ∧ c ≤ ns.length ∧ (∀ b o, s.heap.get? b = some o → h'.get? b = some o)) E) (by simp [hh]) hl hit hz hb fun h' tk c a1 a2 a3 => ⟨rfl, h', tk, c, rfl, a1, a2, a3⟩) fun r s2 hr => ?_
    match r, hr with
    | .ok (.ret _), ⟨e, h', tk, c, e2, a1, a2, a3⟩ =>
      subst e e2
      repeat (any_goals (first | assumption | wp_step))
      exact q h' tk c a1 a2 a3
    | .error _, hr => exact hr
    | .ok .next, hr => exact hr.elim
    | .ok .brk, hr => exact hr.elim
    | .ok .cont, hr => exact hr.elim
  | .error _, hr => exact hr
  | .ok .next, hr => exact hr.elim
  | .ok .brk, hr => exact hr.elim
  | .ok .cont, hr => exact hr.elim
end
section
variable {X : Cx}
def rSetOfL (K : PySem.W.Frag) (w : World) : List V → Hp → VK → Prop := fun xs H Q => ∃ (a : Addr) (ns : List Int), xs = [.ref a] ∧ SqL K H a (ns.map V.int) ∧ ns.length + 1 < scanBound ∧ ∀ p c, H p = none → c ≤ ns.length → Q (.ref p) (upd H p (SetO w p (fun j => decide (j ∈ ns)) c))
theorem cr_setL (hcalm : X.calm = true) : CallR X (.type "set") (rSetOfL X.K X.w) := by
  intro pins s σ H xs us Q I r h
  obtain ⟨a, ns, rfl, ha, hb, q⟩ := h
  obtain ⟨u, rfl, ru⟩ := vals1 r
  obtain rfl : u = Value.ref a := ru
  obtain ⟨its, rv, pl, _⟩ := I.list ha
  obtain ⟨o, n, ho, hc, _, hdat⟩ := pl
  have hz : its.toArray.size = ns.length := by
    have := rv.length
    rw [List.length_map] at this
    rw [List.size_toArray, this]
  refine call_setL (I.ok.hd hcalm) ⟨o, ho, hc, n, hdat⟩ (ints_of_vals rv) hz hb fun h' tk c hS hc2 hk => ?_
  exact ⟨.ref s.heap.objs.size, _, I.laid (t' := tk) hk (Nat.le_refl _) (setO_new hS), rfl, q _ c (I.hok.fresh (Nat.le_refl _)) hc2⟩
end
end Rl
namespace Rl
open PySem PySem.Spec PyProof.Rows L2
/-! ## walks over a dict that is never written again: frozen where it is walked first -/
def tFrz (td : TE) : TE := fun σ H Q => td σ H fun x H1 => ∃ (d : Addr) (kvs : List (Key × V)), x = .ref d ∧ Rd H1 d (.dK kvs) ∧ ∀ (o : Obj) (H2 : Hp), H2 d = some (.frz o (.dK kvs)) → (∀ b, b ≠ d → H2 b = H1 b) → Q x H2
theorem pe_frz {X : Cx} {e : Expr} {td : TE} (h : PE X e td) : PE X e (tFrz td) := by
  refine ⟨fun pins s σ H Q I hw => ?_⟩
  refine thn (h.run pins s σ H _ I hw) fun u s1 ⟨x, H1, I1, rx, d, kvs, ex, hd, q⟩ => ?_
  rcases hd with hd | ⟨ob, hd⟩
  · obtain ⟨od, I2⟩ := I1.lock hd True.intro
    exact ⟨x, _, I2, rx, q od _ upd_same fun b hb => upd_ne hb⟩
  · exact ⟨x, H1, I1, rx, q ob H1 hd fun _ _ => rfl⟩
namespace R
section
variable {K : PySem.W.Frag} {σ : L2.St} {H : Hp} {Q : VK} {a : TE}
/-- what a walk over a dict's keys asks, the dict frozen -/
def KeysR (R : It → Hp → Prop) (x : V) (H : Hp) : Prop := ∃ (d : Addr) (kvs : List (Key × V)), x = .ref d ∧ Rd H d (.dK kvs) ∧ ∀ (o : Obj) (H2 : Hp), H2 d = some (.frz o (.dK kvs)) → (∀ b, b ≠ d → H2 b = H b) →
  ∃ d' o', x = .ref d' ∧ ((∃ kvs, H2 d' = some (.frz o' (.dK kvs)) ∧ R (Itk d' o' kvs) H2) ∨ ∃ kvs, H2 d' = some (.frz o' (.dT kvs)) ∧ R (Itkt d' o' kvs) H2)
theorem keysF {R : It → Hp → Prop} (q : a σ H (KeysR R)) : iKeys (tFrz a) σ H R := q
theorem keysAt {R : It → Hp → Prop} {d : Addr} {kvs : List (Key × V)} (h : Rd H d (.dK kvs)) (q : ∀ (o : Obj) (H2 : Hp), H2 d = some (.frz o (.dK kvs)) → (∀ b, b ≠ d → H2 b = H b) → R (Itk d o kvs) H2) : KeysR R (.ref d) H :=
  ⟨d, kvs, rfl, h, fun o H2 e s => ⟨d, o, rfl, .inl ⟨kvs, e, q o H2 e s⟩⟩⟩
/-- the loop of a dict comprehension over what is walked -/
theorem dcI {J : It} {n : Nat} {G : Hp → Prop} {Y : Nat → Hp → V → Hp → Prop} {g : TG} {tt : TT} {tk tv : TE} {vs : List Nat} {D : Addr} (w : Walk J n G Y) (Pv : Nat → Hp → Prop) (h0 : Pv 0 (upd H D (.dK []))) (hG : ∀ i H, i ≤ n → Pv i H → G H)
    (each : ∀ i x H H', i < n → Pv i H → Y i H x H' → g x (wipe σ vs) H' fun σ2 H2 => wipe σ2 vs = wipe σ vs ∧ tt σ2 H2 fun b H3 =>
      if b = true then tk σ2 H3 fun y H4 => tv σ2 H4 fun z H5 => ∃ kvs k, y = kV k ∧ H5 D = some (.dK kvs) ∧ kvs.length < sizeLine ∧ Pv (i + 1) (upd H5 D (.dK (putK kvs k z))) else Pv (i + 1) H3) (hd : ∀ H, Pv n H → Q (.ref D) H) : DcLoop J g tt tk tv vs σ D H Q := by
  refine ⟨fun i m H' => m = n - i ∧ i ≤ n ∧ Pv i H', ⟨n, by omega, Nat.zero_le _, h0⟩, ?_⟩
  rintro i m H' ⟨rfl, hi, p⟩
  by_cases h : i = n
  · subst h
    exact .inl ⟨w.stops H' (hG _ _ hi p), hd _ p⟩
  · have lt : i < n := by omega
    refine .inr ⟨w.goes i H' lt (hG _ _ hi p), fun H2 => Pv (i + 1) H2, fun H2 p2 => ⟨n - (i + 1), by omega, rfl, lt, p2⟩, fun x H2 y => ?_⟩
    exact each i x H' H2 lt p (w.yields i H' x H2 lt (hG _ _ hi p) y)
end
end R
end Rl
namespace Rl
open PySem PySem.Spec PyProof.Rows L2
/-! ## dict(a list of pairs) -/
def rDictP (K : PySem.W.Frag) : List V → Hp → VK → Prop := fun xs H Q => ∃ (a : Addr) (ps : List Addr) (kvs : List (Key × V)), xs = [.ref a] ∧ SqL K H a (ps.map V.ref) ∧ Paired (fun p kv => SqT K H p [kV kv.1, kv.2]) ps kvs ∧ ∀ p, H p = none → Q (.ref p) (upd H p (.dK (mergeK [] kvs)))
theorem call_dictPA {X : Cx} (hcalm : X.calm = true) : CallR X (.type "dict") (rDictP X.K) := call_dictP hcalm
end Rl
namespace Rl
open PySem PySem.Spec PyProof.Rows L2
/-! ## trees of ifs and loops, drawn; their bytes (k36 to k39) -/
inductive Tr where
  | nil : Tr
  | row (bs : List Int) (r : Tr) : Tr
  | ite (bs : List Int) (a b r : Tr) : Tr
  | loop (bs : List Int) (a b r : Tr) : Tr
namespace Tr
def rowD (bs : List Int) : PyData := .tuple [.str "row", .list (bs.map PyData.int)]
def data : Tr → List PyData
  | .nil => []
  | .row bs r => rowD bs :: r.data
  | .ite bs a b r => rowD bs :: .tuple [.str "if", .list a.data, .list b.data] :: r.data
  | .loop bs a b r => rowD bs :: .tuple [.str "loop", .list a.data, .list b.data] :: r.data
def isNil : Tr → Bool
  | .nil => true
  | _ => false
/-- how many bytes -/
def len : Tr → Nat
  | .nil => 0
  | .row bs r => bs.length + r.len
  | .ite bs a b r => bs.length + ((2 + a.len + if b.isNil then 0 else 2 + b.len) + r.len)
  | .loop bs a b r => bs.length + ((4 + a.len + b.len) + r.len)
def deep : Tr → Nat
  | .nil => 0
  | .row _ r => r.deep
  | .ite _ a b r => max (max (a.deep + 1) (b.deep + 1)) r.deep
  | .loop _ a b r => max (max (a.deep + 1) (b.deep + 1)) r.deep
end Tr
/-- a row's bytes, as they are drawn -/
def sixB : List (List Int) := [[2], [240], [245], [49], [24, 7], [130]]
namespace Tr
/-- as drawn: parts within others are not empty, but an if's other side -/
def Ok : Tr → Prop
  | .nil => True
  | .row bs r => bs ∈ sixB ∧ r.Ok
  | .ite bs a b r => bs ∈ sixB ∧ a.Ok ∧ a.isNil = false ∧ b.Ok ∧ r.Ok
  | .loop bs a b r => bs ∈ sixB ∧ a.Ok ∧ a.isNil = false ∧ b.Ok ∧ b.isNil = false ∧ r.Ok
def app : Tr → Tr → Tr
  | .nil, t => t
  | .row bs r, t => .row bs (r.app t)
  | .ite bs a b r, t => .ite bs a b (r.app t)
  | .loop bs a b r, t => .loop bs a b (r.app t)
end Tr
/-- a part of a tree -/
inductive Pt where
  | row (bs : List Int) : Pt
  | ite (a b : Tr) : Pt
  | loop (a b : Tr) : Pt
namespace Pt
def data : Pt → PyData
  | .row bs => Tr.rowD bs
  | .ite a b => .tuple [.str "if", .list a.data, .list b.data]
  | .loop a b => .tuple [.str "loop", .list a.data, .list b.data]
def len : Pt → Nat
  | .row bs => bs.length
  | .ite a b => 2 + a.len + if b.isNil then 0 else 2 + b.len
  | .loop a b => 4 + a.len + b.len
def Ok : Pt → Prop
  | .row bs => bs ∈ sixB
  | .ite a b => a.Ok ∧ b.Ok
  | .loop a b => a.Ok ∧ b.Ok
def deep : Pt → Nat
  | .row _ => 0
  | .ite a b => max (a.deep + 1) (b.deep + 1)
  | .loop a b => max (a.deep + 1) (b.deep + 1)
end Pt
/-- an if's bytes, from address s on; its sides' bytes where they stand -/
def iteC (s la lb : Nat) (nb : Bool) (ca cb : Nat → List Int) : List Int :=
  if nb then 226 :: ((s + 2 + la : Nat) : Int) :: ca (s + 2)
  else 226 :: ((s + 2 + la + 2 : Nat) : Int) :: (ca (s + 2) ++ 224 :: ((s + 2 + la + 2 + lb : Nat) : Int) :: cb (s + 2 + la + 2))
def loopC (s la lb : Nat) (ca cb : Nat → List Int) : List Int := ca s ++ 225 :: ((s + la + 2 + lb + 2 : Nat) : Int) :: (cb (s + la + 2) ++ [224, (s : Int)])
def Tr.code : Tr → Nat → List Int
  | .nil, _ => []
  | .row bs r, s => bs ++ r.code (s + bs.length)
  | .ite bs a b r, s => bs ++ (iteC (s + bs.length) a.len b.len b.isNil a.code b.code ++ r.code (s + bs.length + (2 + a.len + if b.isNil then 0 else 2 + b.len)))
  | .loop bs a b r, s => bs ++ (loopC (s + bs.length) a.len b.len a.code b.code ++ r.code (s + bs.length + (4 + a.len + b.len)))
def Tr.heads : Tr → Nat → List (Int × Int)
  | .nil, _ => []
  | .row bs r, s => r.heads (s + bs.length)
  | .ite bs a b r, s => (a.heads (s + bs.length + 2) ++ if b.isNil then [] else b.heads (s + bs.length + 2 + a.len + 2)) ++ r.heads (s + bs.length + (2 + a.len + if b.isNil then 0 else 2 + b.len))
  | .loop bs a b r, s => (a.heads (s + bs.length) ++ b.heads (s + bs.length + a.len + 2) ++ [(((s + bs.length : Nat) : Int), ((s + bs.length + a.len + 2 + b.len : Nat) : Int))]) ++ r.heads (s + bs.length + (4 + a.len + b.len))
def Pt.code : Pt → Nat → List Int
  | .row bs, _ => bs
  | .ite a b, s => iteC s a.len b.len b.isNil a.code b.code
  | .loop a b, s => loopC s a.len b.len a.code b.code
def Pt.heads : Pt → Nat → List (Int × Int)
  | .row _, _ => []
  | .ite a b, s => a.heads (s + 2) ++ if b.isNil then [] else b.heads (s + 2 + a.len + 2)
  | .loop a b, s => a.heads s ++ b.heads (s + a.len + 2) ++ [((s : Int), ((s + a.len + 2 + b.len : Nat) : Int))]
def Tr.parts : Tr → List Pt
  | .nil => []
  | .row bs r => .row bs :: r.parts
  | .ite bs a b r => .row bs :: .ite a b :: r.parts
  | .loop bs a b r => .row bs :: .loop a b :: r.parts
def lenL : List Pt → Nat
  | [] => 0
  | p :: ps => p.len + lenL ps
def codeL : List Pt → Nat → List Int
  | [], _ => []
  | p :: ps, s => p.code s ++ codeL ps (s + p.len)
def headsL : List Pt → Nat → List (Int × Int)
  | [], _ => []
  | p :: ps, s => p.heads s ++ headsL ps (s + p.len)
theorem iteC_len {s la lb : Nat} {nb : Bool} {ca cb : Nat → List Int} (ha : ∀ s, (ca s).length = la) (hb : ∀ s, (cb s).length = lb) : (iteC s la lb nb ca cb).length = 2 + la + if nb then 0 else 2 + lb := by
  unfold iteC
  cases nb with
  | true => simp only [if_true, List.length_cons, ha]; omega
  | false => simp only [Bool.false_eq_true, if_false, List.length_cons, List.length_append, ha, hb]; omega
theorem loopC_len {s la lb : Nat} {ca cb : Nat → List Int} (ha : ∀ s, (ca s).length = la) (hb : ∀ s, (cb s).length = lb) : (loopC s la lb ca cb).length = 4 + la + lb := by
  unfold loopC
  simp only [List.length_cons, List.length_append, ha, hb, List.length_nil]
  omega
theorem Tr.code_len : ∀ (t : Tr) (s : Nat), (t.code s).length = t.len
  | .nil, _ => rfl
  | .row bs r, s => by
    simp only [Tr.code, Tr.len, List.length_append, Tr.code_len r]
  | .ite bs a b r, s => by
    simp only [Tr.code, Tr.len, List.length_append, Tr.code_len r, iteC_len (Tr.code_len a) (Tr.code_len b)]
  | .loop bs a b r, s => by
    simp only [Tr.code, Tr.len, List.length_append, Tr.code_len r, loopC_len (Tr.code_len a) (Tr.code_len b)]
theorem Pt.code_len (p : Pt) (s : Nat) : (p.code s).length = p.len := by
  cases p with
  | row bs => rfl
  | ite a b => exact iteC_len a.code_len b.code_len
  | loop a b => exact loopC_len a.code_len b.code_len
theorem Tr.data_parts : ∀ t : Tr, t.data = t.parts.map Pt.data
  | .nil => rfl
  | .row bs r => by simp only [Tr.data, Tr.parts, List.map_cons, Tr.data_parts r]; rfl
  | .ite bs a b r => by simp only [Tr.data, Tr.parts, List.map_cons, Tr.data_parts r]; rfl
  | .loop bs a b r => by simp only [Tr.data, Tr.parts, List.map_cons, Tr.data_parts r]; rfl
theorem Tr.len_parts : ∀ t : Tr, t.len = lenL t.parts
  | .nil => rfl
  | .row bs r => by simp only [Tr.len, Tr.parts, lenL, Tr.len_parts r, Pt.len]
  | .ite bs a b r => by simp only [Tr.len, Tr.parts, lenL, Tr.len_parts r, Pt.len]
  | .loop bs a b r => by simp only [Tr.len, Tr.parts, lenL, Tr.len_parts r, Pt.len]
theorem Tr.code_parts : ∀ (t : Tr) (s : Nat), t.code s = codeL t.parts s
  | .nil, _ => rfl
  | .row bs r, s => by simp only [Tr.code, Tr.parts, codeL, Tr.code_parts r, Pt.code, Pt.len]
  | .ite bs a b r, s => by simp only [Tr.code, Tr.parts, codeL, Tr.code_parts r, Pt.code, Pt.len]
  | .loop bs a b r, s => by simp only [Tr.code, Tr.parts, codeL, Tr.code_parts r, Pt.code, Pt.len]
theorem Tr.heads_parts : ∀ (t : Tr) (s : Nat), t.heads s = headsL t.parts s
  | .nil, _ => rfl
  | .row bs r, s => by simp only [Tr.heads, Tr.parts, headsL, Tr.heads_parts r, Pt.heads, Pt.len, List.nil_append]
  | .ite bs a b r, s => by simp only [Tr.heads, Tr.parts, headsL, Tr.heads_parts r, Pt.heads, Pt.len, List.nil_append]
  | .loop bs a b r, s => by simp only [Tr.heads, Tr.parts, headsL, Tr.heads_parts r, Pt.heads, Pt.len, List.nil_append]
theorem Tr.ok_parts : ∀ {t : Tr}, t.Ok → ∀ p ∈ t.parts, p.Ok
  | .nil, _, _, hp => nomatch hp
  | .row bs r, h, p, hp => by
    rcases List.mem_cons.mp hp with rfl | hp
    · exact h.1
    · exact Tr.ok_parts h.2 p hp
  | .ite bs a b r, h, p, hp => by
    rcases List.mem_cons.mp hp with rfl | hp
    · exact h.1
    · rcases List.mem_cons.mp hp with rfl | hp
      · exact ⟨h.2.1, h.2.2.2.1⟩
      · exact Tr.ok_parts h.2.2.2.2 p hp
  | .loop bs a b r, h, p, hp => by
    rcases List.mem_cons.mp hp with rfl | hp
    · exact h.1
    · rcases List.mem_cons.mp hp with rfl | hp
      · exact ⟨h.2.1, h.2.2.2.1⟩
      · exact Tr.ok_parts h.2.2.2.2.2 p hp
theorem Tr.deep_parts : ∀ {t : Tr}, ∀ p ∈ t.parts, p.deep ≤ t.deep
  | .nil, _, hp => nomatch hp
  | .row bs r, p, hp => by
    rcases List.mem_cons.mp hp with rfl | hp
    · exact Nat.zero_le _
    · exact Tr.deep_parts (t := r) p hp
  | .ite bs a b r, p, hp => by
    rcases List.mem_cons.mp hp with rfl | hp
    · exact Nat.zero_le _
    · rcases List.mem_cons.mp hp with rfl | hp
      · exact Nat.le_max_left _ _
      · exact Nat.le_trans (Tr.deep_parts (t := r) p hp) (Nat.le_max_right _ _)
  | .loop bs a b r, p, hp => by
    rcases List.mem_cons.mp hp with rfl | hp
    · exact Nat.zero_le _
    · rcases List.mem_cons.mp hp with rfl | hp
      · exact Nat.le_max_left _ _
      · exact Nat.le_trans (Tr.deep_parts (t := r) p hp) (Nat.le_max_right _ _)
theorem lenL_app : ∀ (ps : List Pt) (p : Pt), lenL (ps ++ [p]) = lenL ps + p.len
  | [], p => by simp only [List.nil_append, lenL]; omega
  | q :: ps, p => by rw [List.cons_append, lenL, lenL, lenL_app ps p]; omega
theorem codeL_app : ∀ (ps : List Pt) (p : Pt) (s : Nat), codeL (ps ++ [p]) s = codeL ps s ++ p.code (s + lenL ps)
  | [], p, s => by simp only [List.nil_append, codeL, lenL, List.append_nil, Nat.add_zero]
  | q :: ps, p, s => by rw [List.cons_append, codeL, codeL, codeL_app ps p, lenL, List.append_assoc, Nat.add_assoc]
theorem headsL_app : ∀ (ps : List Pt) (p : Pt) (s : Nat), headsL (ps ++ [p]) s = headsL ps s ++ p.heads (s + lenL ps)
  | [], p, s => by simp only [List.nil_append, headsL, lenL, List.append_nil, Nat.add_zero]
  | q :: ps, p, s => by rw [List.cons_append, headsL, headsL, headsL_app ps p, lenL, List.append_assoc, Nat.add_assoc]
theorem codeL_len : ∀ (ps : List Pt) (s : Nat), (codeL ps s).length = lenL ps
  | [], _ => rfl
  | p :: ps, s => by rw [codeL, List.length_append, Pt.code_len, codeL_len ps, lenL]
theorem lenL_take {ps : List Pt} (i : Nat) : lenL (ps.take i) ≤ lenL ps := by
  induction ps generalizing i with
  | nil => simp only [List.take_nil]; exact Nat.le_refl _
  | cons p ps ih =>
    cases i with
    | zero => exact Nat.zero_le _
    | succ i =>
      rw [List.take_succ_cons, lenL, lenL]
      exact Nat.add_le_add_left (ih i) _
theorem lenL_get {ps : List Pt} {i : Nat} {p : Pt} (h : ps[i]? = some p) : lenL (ps.take i) + p.len ≤ lenL ps := by
  have := lenL_take (ps := ps) (i + 1)
  rw [List.take_add_one, h] at this
  rw [← lenL_app]
  exact this
/-! joined trees -/
theorem Tr.app_data : ∀ (t u : Tr), (t.app u).data = t.data ++ u.data
  | .nil, _ => rfl
  | .row bs r, u => by simp only [Tr.app, Tr.data, Tr.app_data r u, List.cons_append]
  | .ite bs a b r, u => by simp only [Tr.app, Tr.data, Tr.app_data r u, List.cons_append]
  | .loop bs a b r, u => by simp only [Tr.app, Tr.data, Tr.app_data r u, List.cons_append]
theorem Tr.app_len : ∀ (t u : Tr), (t.app u).len = t.len + u.len
  | .nil, _ => by simp only [Tr.app, Tr.len, Nat.zero_add]
  | .row bs r, u => by simp only [Tr.app, Tr.len, Tr.app_len r u]; omega
  | .ite bs a b r, u => by simp only [Tr.app, Tr.len, Tr.app_len r u]; omega
  | .loop bs a b r, u => by simp only [Tr.app, Tr.len, Tr.app_len r u]; omega
theorem Tr.app_ok : ∀ {t u : Tr}, t.Ok → u.Ok → (t.app u).Ok
  | .nil, _, _, h => h
  | .row bs r, u, h, g => ⟨h.1, Tr.app_ok h.2 g⟩
  | .ite bs a b r, u, h, g => ⟨h.1, h.2.1, h.2.2.1, h.2.2.2.1, Tr.app_ok h.2.2.2.2 g⟩
  | .loop bs a b r, u, h, g => ⟨h.1, h.2.1, h.2.2.1, h.2.2.2.1, h.2.2.2.2.1, Tr.app_ok h.2.2.2.2.2 g⟩
theorem Tr.app_deep : ∀ {t u : Tr} {n : Nat}, t.deep ≤ n → u.deep ≤ n → (t.app u).deep ≤ n
  | .nil, _, _, _, h => h
  | .row bs r, u, n, h, g => Tr.app_deep (t := r) h g
  | .ite bs a b r, u, n, h, g => Nat.max_le.mpr ⟨(Nat.max_le.mp h).1, Tr.app_deep (t := r) (Nat.max_le.mp h).2 g⟩
  | .loop bs a b r, u, n, h, g => Nat.max_le.mpr ⟨(Nat.max_le.mp h).1, Tr.app_deep (t := r) (Nat.max_le.mp h).2 g⟩
theorem Tr.app_nil {t u : Tr} (h : u.isNil = false) : (t.app u).isNil = false := by
  cases t with
  | nil => exact h
  | _ => rfl
/-! bytes -/
theorem six_by {bs : List Int} (h : bs ∈ sixB) : By bs ∧ 1 ≤ bs.length ∧ bs.length ≤ 2 := by
  simp only [sixB, List.mem_cons, List.not_mem_nil, or_false] at h
  rcases h with rfl | rfl | rfl | rfl | rfl | rfl <;> refine ⟨fun x hx => ?_, by decide, by decide⟩ <;> simp at hx <;> omega
theorem by_cat {a b : List Int} (h : By a) (g : By b) : By (a ++ b) := fun x hx => (List.mem_append.mp hx).elim (h x) (g x)
theorem by_cons {x : Int} {a : List Int} (h : 0 ≤ x ∧ x < 256) (g : By a) : By (x :: a) := fun y hy => (List.mem_cons.mp hy).elim (fun z => z ▸ h) (g y)
theorem Tr.code_by : ∀ {t : Tr} {s : Nat}, t.Ok → s + t.len < 256 → By (t.code s)
  | .nil, _, _, _ => fun _ h => nomatch h
  | .row bs r, s, h, l => by
    simp only [Tr.len] at l
    exact by_cat (six_by h.1).1 (Tr.code_by h.2 (by omega))
  | .ite bs a b r, s, h, l => by
    simp only [Tr.len] at l
    refine by_cat (six_by h.1).1 (by_cat ?_ (Tr.code_by h.2.2.2.2 (by omega)))
    unfold iteC
    cases hn : b.isNil with
    | true =>
      rw [hn, if_pos rfl] at l
      rw [if_pos rfl]
      exact by_cons (by decide) (by_cons (by omega) (Tr.code_by h.2.1 (by omega)))
    | false =>
      rw [hn, if_neg Bool.false_ne_true] at l
      rw [if_neg Bool.false_ne_true]
      exact by_cons (by decide) (by_cons (by omega) (by_cat (Tr.code_by h.2.1 (by omega)) (by_cons (by decide) (by_cons (by omega) (Tr.code_by h.2.2.2.1 (by omega))))))
  | .loop bs a b r, s, h, l => by
    simp only [Tr.len] at l
    refine by_cat (six_by h.1).1 (by_cat ?_ (Tr.code_by h.2.2.2.2.2 (by omega)))
    exact by_cat (Tr.code_by h.2.1 (by omega)) (by_cons (by decide) (by_cons (by omega) (by_cat (Tr.code_by h.2.2.2.1 (by omega)) (by_cons (by decide) (by_cons (by omega) (fun _ z => nomatch z))))))
/-! data that can be compared -/
theorem lay_allT {ds : List PyData} (h : ∀ d ∈ ds, PyData.canLay0 d = true) : PyData.canLayAll0 ds = true := by
  induction ds with
  | nil => simp only [PyData.canLayAll0]
  | cons d ds ih => simp only [PyData.canLayAll0, h d (List.mem_cons_self ..), ih fun x hx => h x (List.mem_cons_of_mem _ hx), Bool.and_self]
theorem depth_allT {n : Nat} {ds : List PyData} (h : ∀ d ∈ ds, PyData.depth d ≤ n) : PyData.depthAll ds ≤ n := by
  induction ds with
  | nil =>
    simp only [PyData.depthAll]
    exact Nat.zero_le _
  | cons d ds ih =>
    have h1 := h d (List.mem_cons_self ..)
    have h2 := ih fun x hx => h x (List.mem_cons_of_mem _ hx)
    simp only [PyData.depthAll]
    omega
theorem lay_ints (bs : List Int) : PyData.canLayAll0 (bs.map PyData.int) = true ∧ PyData.depthAll (bs.map PyData.int) = 0 := by
  induction bs with
  | nil => simp only [List.map_nil, PyData.canLayAll0, PyData.depthAll]; exact ⟨trivial, trivial⟩
  | cons n r ih => simp only [List.map_cons, PyData.canLayAll0, PyData.canLay0, PyData.depthAll, PyData.depth, ih.1, ih.2]; exact ⟨rfl, rfl⟩
theorem Tr.rowD_lay (bs : List Int) : PyData.canLay0 (Tr.rowD bs) = true ∧ PyData.depth (Tr.rowD bs) ≤ 2 := by
  have h1 : PyData.strOk "row" = true := by decide +kernel
  have h2 := lay_ints bs
  simp only [Tr.rowD, PyData.canLay0, PyData.canLayAll0, PyData.depth, PyData.depthAll, h1, h2.1, h2.2, Bool.and_self]
  exact ⟨trivial, by omega⟩
theorem Tr.lay : ∀ (t : Tr), PyData.canLayAll0 t.data = true ∧ PyData.depthAll t.data ≤ 2 * t.deep + 2
  | .nil => by
    simp only [Tr.data, PyData.canLayAll0, PyData.depthAll]
    exact ⟨trivial, Nat.zero_le _⟩
  | .row bs r => by
    have h := Tr.lay r
    have g := Tr.rowD_lay bs
    simp only [Tr.data, Tr.deep, PyData.canLayAll0, PyData.depthAll, h.1, g.1, Bool.and_self]
    exact ⟨trivial, by omega⟩
  | .ite bs a b r => by
    have h := Tr.lay r
    have g := Tr.rowD_lay bs
    have ha := Tr.lay a
    have hb := Tr.lay b
    have h1 : PyData.strOk "if" = true := by decide +kernel
    simp only [Tr.data, Tr.deep, PyData.canLayAll0, PyData.depthAll, PyData.canLay0, PyData.depth, h.1, g.1, ha.1, hb.1, h1, Bool.and_self]
    exact ⟨trivial, by omega⟩
  | .loop bs a b r => by
    have h := Tr.lay r
    have g := Tr.rowD_lay bs
    have ha := Tr.lay a
    have hb := Tr.lay b
    have h1 : PyData.strOk "loop" = true := by decide +kernel
    simp only [Tr.data, Tr.deep, PyData.canLayAll0, PyData.depthAll, PyData.canLay0, PyData.depth, h.1, g.1, ha.1, hb.1, h1, Bool.and_self]
    exact ⟨trivial, by omega⟩
theorem Tr.shaped {t : Tr} (h : t.deep ≤ 20) : SeqAt.shaped (.list t.data) = true := by
  have g := t.lay
  unfold SeqAt.shaped
  simp only [PyData.canLay0, PyData.depth, g.1, Bool.true_and]
  exact decide_eq_true (by omega)
theorem Tr.eqv_nil (t : Tr) : PyData.eqv (.list t.data) (.list []) = t.isNil := by
  cases t <;> simp only [Tr.data, PyData.eqv, PyData.eqvAll, Tr.isNil]
theorem shaped_nil : SeqAt.shaped (.list []) = true := by
  unfold SeqAt.shaped
  simp only [PyData.canLay0, PyData.canLayAll0, PyData.depth, PyData.depthAll]
  rfl
/-! ### data whose lists and tuples stand as such -/
mutual
inductive Dx (H : Hp) : V → PyData → Prop
  | int (i : Int) : Dx H (.int i) (.int i)
  | str (s : Str) : Dx H (.str s) (.str s)
  | lst {p : Addr} {xs : List V} {ds : List PyData} : H p = some (.lst xs) → DxAll H xs ds → Dx H (.ref p) (.list ds)
  | tup {p : Addr} {xs : List V} {ds : List PyData} : H p = some (.tup xs) → DxAll H xs ds → Dx H (.ref p) (.tuple ds)
inductive DxAll (H : Hp) : List V → List PyData → Prop
  | nil : DxAll H [] []
  | cons {v : V} {d : PyData} {vs : List V} {ds : List PyData} : Dx H v d → DxAll H vs ds → DxAll H (v :: vs) (d :: ds)
end
mutual
theorem Dx.mono {H H' : Hp} (e : Same H H') : ∀ {d : PyData} {v : V}, Dx H v d → Dx H' v d
  | _, _, .int i => .int i
  | _, _, .str x => .str x
  | _, _, .lst hs ha => .lst (e _ _ hs) (DxAll.mono e ha)
  | _, _, .tup hs ha => .tup (e _ _ hs) (DxAll.mono e ha)
theorem DxAll.mono {H H' : Hp} (e : Same H H') : ∀ {ds : List PyData} {vs : List V}, DxAll H vs ds → DxAll H' vs ds
  | _, _, .nil => .nil
  | _, _, .cons a b => .cons (Dx.mono e a) (DxAll.mono e b)
end
mutual
theorem Dx.dp {K : PySem.W.Frag} {H : Hp} : ∀ {d : PyData} {v : V}, Dx H v d → Dp K H v d
  | _, _, .int i => .int i
  | _, _, .str x => .str x
  | _, _, .lst hs ha => .lst (SqL.of hs) (DxAll.dp ha)
  | _, _, .tup hs ha => .tup (SqT.of hs) (DxAll.dp ha)
theorem DxAll.dp {K : PySem.W.Frag} {H : Hp} : ∀ {ds : List PyData} {vs : List V}, DxAll H vs ds → DpAll K H vs ds
  | _, _, .nil => .nil
  | _, _, .cons a b => .cons (Dx.dp a) (DxAll.dp b)
end
theorem dx_int {H : Hp} {v : V} {i : Int} (h : Dx H v (.int i)) : v = .int i := by
  cases h
  rfl
theorem dx_str {H : Hp} {v : V} {i : Str} (h : Dx H v (.str i)) : v = .str i := by
  cases h
  rfl
theorem dx_tup {H : Hp} {v : V} {ds : List PyData} (h : Dx H v (.tuple ds)) : ∃ p xs, v = .ref p ∧ H p = some (.tup xs) ∧ DxAll H xs ds := by
  cases h with
  | tup hs ha => exact ⟨_, _, rfl, hs, ha⟩
theorem dx_lst {H : Hp} {v : V} {ds : List PyData} (h : Dx H v (.list ds)) : ∃ p xs, v = .ref p ∧ H p = some (.lst xs) ∧ DxAll H xs ds := by
  cases h with
  | lst hs ha => exact ⟨_, _, rfl, hs, ha⟩
theorem DxAll.length {H : Hp} : ∀ {vs : List V} {ds : List PyData}, DxAll H vs ds → vs.length = ds.length
  | _, _, .nil => rfl
  | _, _, .cons _ t => by rw [List.length_cons, List.length_cons, DxAll.length t]
theorem DxAll.get {H : Hp} : ∀ {vs : List V} {ds : List PyData}, DxAll H vs ds → ∀ {i : Nat} {v : V}, vs[i]? = some v → ∃ d, ds[i]? = some d ∧ Dx H v d
  | _, _, .nil, i, v, h => by cases h
  | _, _, .cons (d := d) a t, 0, v, h => ⟨d, rfl, by
    have e := Option.some.inj h
    rw [← e]
    exact a⟩
  | _, _, .cons _ t, i + 1, v, h => DxAll.get t (i := i) h
theorem DxAll.of_ints {H : Hp} : ∀ {vs : List V} {ns : List Int}, DxAll H vs (ns.map PyData.int) → vs = ns.map V.int
  | _, [], h => by
    cases h
    rfl
  | _, n :: ns, h => by
    cases h with
    | cons a t => rw [dx_int a, DxAll.of_ints t]; rfl
theorem DxAll.app {H : Hp} : ∀ {xs ys : List V} {ds es : List PyData}, DxAll H xs ds → DxAll H ys es → DxAll H (xs ++ ys) (ds ++ es)
  | _, _, _, _, .nil, h2 => h2
  | _, _, _, _, .cons a t, h2 => .cons a (DxAll.app t h2)
/-! ### what is new since H0 -/
open Classical in
noncomputable def nwH (H0 H : Hp) : Hp := fun a => if H0 a = none then H a else none
section
variable {H0 H1 H H' : Hp} {r p : Addr} {o : HO}
theorem nw_at (h : H0 p = none) (g : H p = some o) : nwH H0 H p = some o := by
  unfold nwH
  rw [if_pos h]
  exact g
theorem nw_of (h : nwH H0 H p = some o) : H0 p = none ∧ H p = some o := by
  unfold nwH at h
  split at h
  · exact ⟨‹_›, h⟩
  · cases h
theorem nw_same (s : Same H H') : Same (nwH H0 H) (nwH H0 H') := fun a o e => by
  obtain ⟨h1, h2⟩ := nw_of e
  exact nw_at h1 (s _ _ h2)
theorem nw_fx (hr : ∃ o, H0 r = some o) (f : Fx r H H') : Same (nwH H0 H) (nwH H0 H') := fun a o e => by
  obtain ⟨h1, h2⟩ := nw_of e
  obtain ⟨u, hr⟩ := hr
  exact nw_at h1 (f.at (fun z => by rw [z, hr] at h1; cases h1) h2)
theorem nw_mut (hp : ∃ o, H0 p = some o) : nwH H0 (upd H p o) = nwH H0 H := by
  funext a
  unfold nwH
  split
  · rename_i h
    obtain ⟨u, hp⟩ := hp
    exact upd_ne (fun z => by rw [z, hp] at h; cases h)
  · rfl
theorem nw_old (s : Same H0 H1) : Same (nwH H1 H) (nwH H0 H) := fun a o e => by
  obtain ⟨h1, h2⟩ := nw_of e
  exact nw_at (s.free h1) h2
/-- without c, that stood there -/
theorem nw_but (hr : ∃ o, H0 r = some o) : Same (nwH H0 H) (but r H) := fun a o e => by
  obtain ⟨h1, h2⟩ := nw_of e
  obtain ⟨u, hr⟩ := hr
  exact but_get (fun z => by rw [z, hr] at h1; cases h1) h2
theorem nw_in : Same (nwH H0 H) H := fun a o e => (nw_of e).2
end
/-- what stood stands -/
def Alv (H0 H : Hp) : Prop := ∀ p, H p = none → H0 p = none
theorem Alv.fx {H0 H H' : Hp} {r : Addr} (b : Alv H0 H) (f : Fx r H H') (S : Spr H' r) : Alv H0 H' := fun p hp => b p (f.freeS S hp)
theorem Alv.same {H0 H H' : Hp} (b : Alv H0 H) (s : Same H H') : Alv H0 H' := fun p hp => b p (s.free hp)
theorem Alv.mut {H0 H : Hp} {D : Addr} {o : HO} (b : Alv H0 H) : Alv H0 (upd H D o) := fun p hp => b p (by
  by_cases z : p = D
  · rw [z, upd_same] at hp
    cases hp
  · rwa [upd_ne z] at hp)
theorem Alv.refl (H : Hp) : Alv H H := fun _ h => h
/-- an expression tells new data, of a kind, with draws -/
def Nt (K : PySem.W.Frag) (r : Addr) (H0 : Hp) (te : TE) (σ : L2.St) (P : PyData → Prop) : Prop := ∀ (H : Hp) (Q : VK), Spr H r → Alv H0 H → (∀ v H' d, Fx r H H' → Spr H' r → Dx (nwH H0 H') v d → P d → Q v H') → te σ H Q
def NtA (K : PySem.W.Frag) (r : Addr) (H0 : Hp) (tr : TA) (σ : L2.St) (P : List PyData → Prop) : Prop := ∀ (H : Hp) (QA : List V → Hp → Prop), Spr H r → Alv H0 H → (∀ vs H' ds, Fx r H H' → Spr H' r → DxAll (nwH H0 H') vs ds → P ds → QA vs H') → tr σ H QA
section
variable {K : PySem.W.Frag} {w : World} {r : Addr} {H0 : Hp} {σ : L2.St} {te tf tk : TE} {tr : TA} {P P' : PyData → Prop} {PA PB : List PyData → Prop} {n : Nat} {v : V} {d : PyData}
theorem Nt.imp (h : Nt K r H0 te σ P) (e : ∀ d, P d → P' d) : Nt K r H0 te σ P' := fun H Q S b q => h H Q S b fun v H' d f S' hd pd => q v H' d f S' hd (e d pd)
theorem NtA.imp (h : NtA K r H0 tr σ PA) (e : ∀ d, PA d → PB d) : NtA K r H0 tr σ PB := fun H Q S b q => h H Q S b fun v H' d f S' hd pd => q v H' d f S' hd (e d pd)
theorem Nt.int {i : Int} : Nt K r H0 (tC (.int i)) σ (· = .int i) := fun H Q S _ q => q _ _ _ (Fx.refl r H) S (.int i) rfl
theorem Nt.str {s : Str} : Nt K r H0 (tC (.str s)) σ (· = .str s) := fun H Q S _ q => q _ _ _ (Fx.refl r H) S (.str s) rfl
theorem Nt.draw {i : Nat} {m : Int} (h0 : σ[i]? = some (some (.ref r)) := by with_unfolding_all rfl) (m0 : 0 < m := by decide) (m1 : m < 1073741824 := by decide) : Nt K r H0 (tCall (sp_law_draw K w) [] E0 (tCons (tVar i) (tCons (tC (.int m)) tNil))) σ (fun d => ∃ j, d = .int j ∧ 0 ≤ j ∧ j < m) := fun H Q S _ q =>
  R.call (R.cons (R.var (R.cons (R.c (R.nil ⟨r, m, rfl, S, m0, m1, fun j H' f S' j0 j1 => q _ _ _ f S' (.int j) ⟨j, rfl, j0, j1⟩⟩))) h0))
theorem NtA.nil : NtA K r H0 tNil σ (· = []) := fun H Q S _ q => R.nil (q _ _ _ (Fx.refl r H) S .nil rfl)
theorem NtA.cons (hr : ∃ o, H0 r = some o) (h : Nt K r H0 te σ P) (h2 : NtA K r H0 tr σ PA) : NtA K r H0 (tCons te tr) σ (fun ds => ∃ d ds', ds = d :: ds' ∧ P d ∧ PA ds') := fun H Q S b q => R.cons (h H _ S b fun v H1 d f1 S1 d1 p1 => h2 H1 _ S1 (b.fx f1 S1) fun vs H2 ds f2 S2 d2 p2 =>
  q _ _ _ (f1.trans f2) S2 (.cons (Dx.mono (nw_fx hr f2) d1) d2) ⟨d, ds, rfl, p1, p2⟩)
theorem Nt.tup (h : NtA K r H0 tr σ PA) (hl : ∀ ds, PA ds → ds.length ≤ 1000) : Nt K r H0 (tTup tr) σ (fun d => ∃ ds, d = .tuple ds ∧ PA ds) := fun H Q S b q => R.tup (h H _ S b fun vs H1 ds f1 S1 d1 p1 =>
  ⟨by rw [DxAll.length d1]; exact Nat.le_trans (hl ds p1) (by decide), fun p hp => q _ _ _ (f1.trans (Same.but (same_upd hp))) (S1.keep (same_upd hp)) (.tup (nw_at (b.fx f1 S1 p hp) upd_same) (DxAll.mono (nw_same (same_upd hp)) d1)) ⟨ds, rfl, p1⟩⟩)
/-- a new list, as it stands -/
theorem NtA.newL (h : NtA K r H0 tr σ PA) (hl : ∀ ds, PA ds → ds.length ≤ 1000) {H : Hp} {Q : VK} (S : Spr H r) (b : Alv H0 H) (q : ∀ p xs ds H', H p = none → p ≠ r → Fx r H H' → Spr H' r → H' p = some (.lst xs) → DxAll (nwH H0 H') xs ds → PA ds → Q (.ref p) H') : tLst tr σ H Q := R.lst (h H _ S b fun vs H1 ds f1 S1 d1 p1 =>
  ⟨by rw [DxAll.length d1]; exact Nat.le_trans (hl ds p1) (by decide), fun p hp => q p vs ds _ (f1.freeS S1 hp) (S1.ne hp) (f1.trans (Same.but (same_upd hp))) (S1.keep (same_upd hp)) upd_same (DxAll.mono (nw_same (same_upd hp)) d1) p1⟩)
theorem Nt.lst (h : NtA K r H0 tr σ PA) (hl : ∀ ds, PA ds → ds.length ≤ 1000) : Nt K r H0 (tLst tr) σ (fun d => ∃ ds, d = .list ds ∧ PA ds) := fun H Q S b q => h.newL hl S b fun p xs ds H' hp np f1 S1 g d1 p1 => q _ _ _ f1 S1 (.lst (nw_at (b p hp) g) d1) ⟨ds, rfl, p1⟩
/-- one of a list, drawn -/
theorem Nt.ixL (hr : ∃ o, H0 r = some o) {PK : Int → Prop} (h : Nt K r H0 te σ (fun d => ∃ ds, d = .list ds ∧ PA ds)) (hk : Nt K r H0 tk σ (fun d => ∃ i, d = .int i ∧ 0 ≤ i ∧ PK i)) (hl : ∀ ds i, PA ds → PK i → i < ds.length) : Nt K r H0 (tOp (rIx K) te tk) σ (fun d => ∃ ds, PA ds ∧ d ∈ ds) := fun H Q S b q =>
  R.op (h H _ S b fun v H1 d f1 S1 d1 p1 => hk H1 _ S1 (b.fx f1 S1) fun v2 H2 d2 f2 S2 e2 p2 => by
    obtain ⟨ds, rfl, p1⟩ := p1
    obtain ⟨i, rfl, i0, p2⟩ := p2
    cases dx_int e2
    obtain ⟨p, xs, rfl, hp, hx⟩ := dx_lst d1
    have hx2 := DxAll.mono (nw_fx hr f2) hx
    have lx := hl ds i p1 p2
    refine R.ixLV (SqL.of ((L2.Same.trans (nw_fx hr f2) nw_in) _ _ hp)) i0 (by rw [DxAll.length hx]; exact lx) fun m hm _ => ?_
    obtain ⟨d, g1, g2⟩ := DxAll.get hx2 hm
    exact q _ _ _ (f1.trans f2) S2 g2 ⟨ds, p1, List.mem_of_getElem? g1⟩)
end
/-! ### promises -/
/-- bytes of a tree so deep, at most -/
def wT : Nat → Nat
  | 0 => 8
  | n + 1 => 4 * (6 + 2 * wT n)
structure Tr.G (t : Tr) (n : Nat) : Prop where
  ok : t.Ok
  dp : t.deep ≤ n
  ln : t.len ≤ wT n
def headD (p : Int × Int) : PyData := .tuple [.int p.1, .int p.2]
def spTr (K : PySem.W.Frag) (_ : World) : Nat → Sp
  | 0 => fun _ _ _ _ => False
  | n + 1 => fun vs H Q _ => ∃ (r : Addr) (dp : Nat), vs = [.ref r, .int (dp : Nat)] ∧ Spr H r ∧ dp ≤ n ∧ dp ≤ 3 ∧ ∀ v H' (t : Tr), Fx r H H' → Spr H' r → Dx (nwH H H') v (.list t.data) → t.G dp → t.isNil = false → Q v H'
abbrev sp_law_tree (K : PySem.W.Frag) (w : World) : Sp := spTr K w 4
/-- a part's bytes put behind those of the list at c -/
def spPt (K : PySem.W.Frag) (pt : Pt → Prop) (n : Nat) : Sp := fun vs H Q _ => ∃ (v : V) (c : Addr) (p : Pt) (ns : List Int), vs = [v, .ref c] ∧ Dx (but c H) v p.data ∧ pt p ∧ p.Ok ∧ p.deep ≤ n ∧ p.deep ≤ 10 ∧ H c = some (.lst (ns.map V.int)) ∧ ns.length + p.len ≤ 9000 ∧
  ∀ h H' xs, Fx c H H' → H h = none → h ≠ c → H' c = some (.lst ((ns ++ p.code ns.length).map V.int)) → H' h = some (.lst xs) → DxAll (but c H') xs ((p.heads ns.length).map headD) → Q (.ref h) H'
def spIl (K : PySem.W.Frag) (_ : World) (n : Nat) : Sp := spPt K (fun p => ∃ a b, p = .ite a b) n
def spLl (K : PySem.W.Frag) (_ : World) (n : Nat) : Sp := spPt K (fun p => ∃ a b, p = .loop a b) n
def spTl (K : PySem.W.Frag) (_ : World) : Nat → Sp
  | 0 => fun _ _ _ _ => False
  | n + 1 => fun vs H Q _ => ∃ (v : V) (c : Addr) (t : Tr) (ns : List Int), vs = [v, .ref c] ∧ Dx (but c H) v (.list t.data) ∧ t.Ok ∧ t.deep ≤ n ∧ t.deep ≤ 9 ∧ H c = some (.lst (ns.map V.int)) ∧ ns.length + t.len ≤ 9000 ∧
    ∀ h H' xs, Fx c H H' → H h = none → h ≠ c → H' c = some (.lst ((ns ++ t.code ns.length).map V.int)) → H' h = some (.lst xs) → DxAll (but c H') xs ((t.heads ns.length).map headD) → Q (.ref h) H'
abbrev sp_law_if_laid (K : PySem.W.Frag) (w : World) : Sp := spIl K w 4
abbrev sp_law_loop_laid (K : PySem.W.Frag) (w : World) : Sp := spLl K w 4
abbrev sp_law_tree_laid (K : PySem.W.Frag) (w : World) : Sp := spTl K w 5
/-- a code put together: the bytes ahead, a tree's, one more -/
def sp_law_made (K : PySem.W.Frag) (_ : World) : Sp := fun vs H Q _ => ∃ (r l : Addr) (as : List Int), vs = [.ref r, .ref l] ∧ Spr H r ∧ l ≠ r ∧ H l = some (.lst (as.map V.int)) ∧ as.length ≤ 100 ∧
  ∀ q cd hd H' (t : Tr) (x : Int) xs, H q = none → H cd = none → H hd = none → cd ≠ r → cd ≠ hd → Fx r H H' → Spr H' r → H' q = some (.tup [.ref cd, .ref hd]) → H' cd = some (.lst ((as ++ (t.code as.length ++ [x])).map V.int)) → H' hd = some (.lst xs) →
    DxAll (but cd (but r H')) xs ((t.heads as.length).map headD) → t.Ok → t.deep ≤ 3 → as.length + t.len < 190 → (x = 0 ∨ x = 1) → Q (.ref q) H'
section
variable {K : PySem.W.Frag} {w : World} {vs : List V} {H : Hp} {Q : VK} {E : XK} {n : Nat}
theorem len_law_tree (h : spTr K w n vs H Q E) : vs.length = 2 := by
  cases n with
  | zero => cases h
  | succ n =>
    obtain ⟨_, _, rfl, _⟩ := h
    rfl
theorem len_law_if_laid (h : spIl K w n vs H Q E) : vs.length = 2 := by
  obtain ⟨_, _, _, _, rfl, _⟩ := h
  rfl
theorem len_law_loop_laid (h : spLl K w n vs H Q E) : vs.length = 2 := by
  obtain ⟨_, _, _, _, rfl, _⟩ := h
  rfl
theorem len_law_tree_laid (h : spTl K w n vs H Q E) : vs.length = 2 := by
  cases n with
  | zero => cases h
  | succ n =>
    obtain ⟨_, _, _, _, rfl, _⟩ := h
    rfl
theorem len_law_made (h : sp_law_made K w vs H Q E) : vs.length = 2 := by
  obtain ⟨_, _, _, rfl, _⟩ := h
  rfl
end
end Rl
namespace Rl
open PySem PySem.Spec PyProof.Rows L2 NdefX LamX
/-- _law_tree: slots 0 _law_spring_here, 1 _law_deep, 2 _law_found, 3 _law_turn, 4 _law_pick -/
def t_law_tree (K : PySem.W.Frag) (w : World) (rec : Sp) : TS :=
  (tSeq (tAsg (tLst tNil) (gName 2)) (tSeq (tFor (iRng1 (tCons (tOp (rAddA K) (tC (.int 1)) (tCall (sp_law_draw K w) [] E0 (tCons (tVar 0) (tCons (tC (.int 4)) tNil)))) tNil)) (gName 3) (tSeq (tAsg (tIf (tTest (tOp (rGtA) (tVar 1) (tC (.int 0)))) (tCall (sp_law_draw K w) [] E0 (tCons (tVar 0) (tCons (tC (.int 9)) tNil))) (tC (.int 0))) (gName 4)) (tSeq (tDrop (tBM K "list" rAppend (tVar 2) (tCons (tTup (tCons (tC (.str "row")) (tCons (tOp (rIx K) (tLst (tCons (tLst (tCons (tC (.int 2)) tNil)) (tCons (tLst (tCons (tC (.int 240)) tNil)) (tCons (tLst (tCons (tC (.int 245)) tNil)) (tCons (tLst (tCons (tC (.int 49)) tNil)) (tCons (tLst (tCons (tC (.int 24)) (tCons (tC (.int 7)) tNil))) (tCons (tLst (tCons (tC (.int 130)) tNil)) tNil))))))) (tCall (sp_law_draw K w) [] E0 (tCons (tVar 0) (tCons (tC (.int 6)) tNil)))) tNil))) tNil))) (tIfS (tOr (tTest (tOp (rEqA K) (tVar 4) (tC (.int 3)))) (tTest (tOp (rEqA K) (tVar 4) (tC (.int 4))))) (tDrop (tBM K "list" rAppend (tVar 2) (tCons (tTup (tCons (tC (.str "if")) (tCons (tCall rec [] E0 (tCons (tVar 0) (tCons (tOp (rSubA) (tVar 1) (tC (.int 1))) tNil))) (tCons (tLst tNil) tNil)))) tNil))) (tIfS (tTest (tOp (rEqA K) (tVar 4) (tC (.int 5)))) (tDrop (tBM K "list" rAppend (tVar 2) (tCons (tTup (tCons (tC (.str "if")) (tCons (tCall rec [] E0 (tCons (tVar 0) (tCons (tOp (rSubA) (tVar 1) (tC (.int 1))) tNil))) (tCons (tCall rec [] E0 (tCons (tVar 0) (tCons (tOp (rSubA) (tVar 1) (tC (.int 1))) tNil))) tNil)))) tNil))) (tIfS (tTest (tOp (rGtA) (tVar 4) (tC (.int 5)))) (tDrop (tBM K "list" rAppend (tVar 2) (tCons (tTup (tCons (tC (.str "loop")) (tCons (tCall rec [] E0 (tCons (tVar 0) (tCons (tOp (rSubA) (tVar 1) (tC (.int 1))) tNil))) (tCons (tCall rec [] E0 (tCons (tVar 0) (tCons (tOp (rSubA) (tVar 1) (tC (.int 1))) tNil))) tNil)))) tNil))) tNext)))))) (tRet (tVar 2))))
abbrev N_law_tree : List Str := ["_law_spring_here", "_law_deep", "_law_found", "_law_turn", "_law_pick"]

/-- _law_if_laid: slots 0 _law_part, 1 _law_code, 2 _law_at, 3 _law_heads, 4 _law_over -/
def t_law_if_laid (K : PySem.W.Frag) (w : World) (rec : Sp) : TS :=
  (tSeq (tAsg (tCB (rLenA K) (tCons (tVar 1) tNil)) (gName 2)) (tSeq (tDrop (tBM K "list" rExtend (tVar 1) (tCons (tLst (tCons (tC (.int 226)) (tCons (tC (.int 0)) tNil))) tNil))) (tSeq (tAsg (tCall rec [] E0 (tCons (tOp (rIx K) (tVar 0) (tC (.int 1))) (tCons (tVar 1) tNil))) (gName 3)) (tSeq (tAsg (tOp (rAddA K) (tCB (rLenA K) (tCons (tVar 1) tNil)) (tC (.int 1))) (gName 4)) (tSeq (tIfS (tTest (tOp (rNeA K) (tOp (rIx K) (tVar 0) (tC (.int 2))) (tLst tNil))) (tDrop (tBM K "list" rExtend (tVar 1) (tCons (tLst (tCons (tC (.int 224)) (tCons (tC (.int 0)) tNil))) tNil))) tNext) (tSeq (tAsg (tCB (rLenA K) (tCons (tVar 1) tNil)) (gSub (tVar 1) (tOp (rAddA K) (tVar 2) (tC (.int 1))) rSetL)) (tSeq (tIfS (tTest (tOp (rNeA K) (tOp (rIx K) (tVar 0) (tC (.int 2))) (tLst tNil))) (tSeq (tAsg (tOp (rAddA K) (tVar 3) (tCall rec [] E0 (tCons (tOp (rIx K) (tVar 0) (tC (.int 2))) (tCons (tVar 1) tNil)))) (gName 3)) (tAsg (tCB (rLenA K) (tCons (tVar 1) tNil)) (gSub (tVar 1) (tVar 4) rSetL))) tNext) (tRet (tVar 3)))))))))
abbrev N_law_if_laid : List Str := ["_law_part", "_law_code", "_law_at", "_law_heads", "_law_over"]

/-- _law_loop_laid: slots 0 _law_part, 1 _law_code, 2 _law_head, 3 _law_heads, 4 _law_at -/
def t_law_loop_laid (K : PySem.W.Frag) (w : World) (rec : Sp) : TS :=
  (tSeq (tAsg (tCB (rLenA K) (tCons (tVar 1) tNil)) (gName 2)) (tSeq (tAsg (tCall rec [] E0 (tCons (tOp (rIx K) (tVar 0) (tC (.int 1))) (tCons (tVar 1) tNil))) (gName 3)) (tSeq (tAsg (tCB (rLenA K) (tCons (tVar 1) tNil)) (gName 4)) (tSeq (tDrop (tBM K "list" rExtend (tVar 1) (tCons (tLst (tCons (tC (.int 225)) (tCons (tC (.int 0)) tNil))) tNil))) (tSeq (tAsg (tOp (rAddA K) (tVar 3) (tCall rec [] E0 (tCons (tOp (rIx K) (tVar 0) (tC (.int 2))) (tCons (tVar 1) tNil)))) (gName 3)) (tSeq (tDrop (tBM K "list" rExtend (tVar 1) (tCons (tLst (tCons (tC (.int 224)) (tCons (tVar 2) tNil))) tNil))) (tSeq (tAsg (tCB (rLenA K) (tCons (tVar 1) tNil)) (gSub (tVar 1) (tOp (rAddA K) (tVar 4) (tC (.int 1))) rSetL)) (tRet (tOp (rAddA K) (tVar 3) (tLst (tCons (tTup (tCons (tVar 2) (tCons (tOp (rSubA) (tCB (rLenA K) (tCons (tVar 1) tNil)) (tC (.int 2))) tNil))) tNil)))))))))))
abbrev N_law_loop_laid : List Str := ["_law_part", "_law_code", "_law_head", "_law_heads", "_law_at"]

/-- _law_tree_laid: slots 0 _law_tree_here, 1 _law_code, 2 _law_heads, 3 _law_part -/
def t_law_tree_laid (K : PySem.W.Frag) (w : World) (rec0 rec1 : Sp) : TS :=
  (tSeq (tAsg (tLst tNil) (gName 2)) (tSeq (tFor (iSeq K (tVar 0)) (gName 3) (tIfS (tTest (tOp (rEqA K) (tOp (rIx K) (tVar 3) (tC (.int 0))) (tC (.str "row")))) (tDrop (tBM K "list" rExtend (tVar 1) (tCons (tOp (rIx K) (tVar 3) (tC (.int 1))) tNil))) (tIfS (tTest (tOp (rEqA K) (tOp (rIx K) (tVar 3) (tC (.int 0))) (tC (.str "if")))) (tAsg (tOp (rAddA K) (tVar 2) (tCall rec0 [] E0 (tCons (tVar 3) (tCons (tVar 1) tNil)))) (gName 2)) (tAsg (tOp (rAddA K) (tVar 2) (tCall rec1 [] E0 (tCons (tVar 3) (tCons (tVar 1) tNil)))) (gName 2))))) (tRet (tVar 2))))
abbrev N_law_tree_laid : List Str := ["_law_tree_here", "_law_code", "_law_heads", "_law_part"]

/-- _law_made: slots 0 _law_spring_here, 1 _law_ahead, 2 _law_deep, 3 _law_code, 4 _law_heads -/
def t_law_made (K : PySem.W.Frag) (w : World) : TS :=
  (tSeq (tFor (iSeq K (tLst (tCons (tC (.int 3)) (tCons (tC (.int 2)) (tCons (tC (.int 1)) (tCons (tC (.int 0)) tNil)))))) (gName 2) (tSeq (tAsg (tCB (rListA K) (tCons (tVar 1) tNil)) (gName 3)) (tSeq (tAsg (tCall (sp_law_tree_laid K w) [] E0 (tCons (tCall (sp_law_tree K w) [] E0 (tCons (tVar 0) (tCons (tCall (sp_law_draw K w) [] E0 (tCons (tVar 0) (tCons (tOp (rAddA K) (tVar 2) (tC (.int 1))) tNil))) tNil))) (tCons (tVar 3) tNil))) (gName 4)) (tIfS (tTest (tOp (rLtA) (tCB (rLenA K) (tCons (tVar 3) tNil)) (tC (.int 190)))) (tRet (tTup (tCons (tOp (rAddA K) (tVar 3) (tLst (tCons (tCall (sp_law_draw K w) [] E0 (tCons (tVar 0) (tCons (tC (.int 2)) tNil))) tNil))) (tCons (tVar 4) tNil)))) tNext)))) (tRet (tTup (tCons (tOp (rAddA K) (tCB (rListA K) (tCons (tVar 1) tNil)) (tLst (tCons (tC (.int 0)) tNil))) (tCons (tLst tNil) tNil)))))
abbrev N_law_made : List Str := ["_law_spring_here", "_law_ahead", "_law_deep", "_law_code", "_law_heads"]

end Rl
namespace Rl
open PySem PySem.Spec PyProof.Rows L2 NdefX LamX
/-! ## the defs within defs -/
def top (i : Nat) : Stmt := PySem.Challenge.pw_rowlift_k39_whole_rows_put_ahead.main.body.getD i (.Pass ⟨0, 0, 0, 0⟩)
def on_found_places : Stmt := (defBody (top 18)).getD 0 (.Pass ⟨0, 0, 0, 0⟩)
def on_q_found_places : Str := "found_places.<locals>.onward"
/-- the table of its code objects -/
abbrev nt_P_found_places (K : PySem.W.Frag) : Addr := (He.cT K ("found_places", none)).2
def on_nm : Nat → Nat → Str := fun _ _ => on_q_found_places
def NT (K : PySem.W.Frag) : List NTab := [(nt_P_found_places K, on_nm)]
theorem nt_mem_found_places (K : PySem.W.Frag) : (nt_P_found_places K, on_nm) ∈ NT K := List.mem_of_getElem? (i := 0) rfl
theorem nt_one (K : PySem.W.Frag) {P : Addr} : ∀ p ∈ NT K, p.1 = P → p.2 = on_nm := fun p hp _ => by
  simp only [NT, List.mem_cons, List.not_mem_nil, or_false] at hp
  rw [hp]
/-- the defs that all_from may be handed, where each goes on to -/
def NxT (F : NF) (Nx : List Int → Int → Int → Prop) : Prop := ((∃ cl c, F = NF.of on_found_places "onward" on_q_found_places cl c) ∧ Nx = NxA)
theorem nxt_found_places (cl : List (Str × Addr)) (c : Addr) : NxT (NF.of on_found_places "onward" on_q_found_places cl c) NxA := ⟨⟨cl, c, rfl⟩, rfl⟩
end Rl
namespace Rl
open PySem PySem.Spec PyProof.Rows L2 NdefX LamX
/-! ## what stays where tables may grow -/
section
variable {K : PySem.W.Frag} {H H' H'' : Hp}
/-- the heap without tables -/
def noT (H : Hp) : Hp := fun a => match H a with
  | some (.tbl _) => none
  | o => o
theorem noT_get {a : Addr} {o : HO} (h : H a = some o) (n : ∀ ps, o ≠ .tbl ps) : noT H a = some o := by
  unfold noT
  rw [h]
  cases o <;> first | rfl | exact absurd rfl (n _)
theorem noT_same : Same (noT H) H := fun a o e => by
  unfold noT at e
  split at e
  · cases e
  · exact e
theorem noT_not {a : Addr} {o : HO} (e : noT H a = some o) : ∀ ps, o ≠ .tbl ps := fun ps z => by
  subst z
  unfold noT at e
  cases q : H a with
  | none =>
    rw [q] at e
    cases e
  | some u =>
    rw [q] at e
    cases u <;> first | (cases e; done) | cases e
theorem extN_noT (e : ExtN H H') : Same (noT H) H' := fun a o q => e a o (noT_same a o q) (noT_not q)
theorem ExtN.ofSame (e : Same H H') : ExtN H H' := fun a o q _ => e a o q
theorem ExtN.sqL {a : Addr} {xs : List V} (e : ExtN H H') (h : SqL K H a xs) : SqL K H' a xs := by
  rcases h with (g | ⟨o, g⟩) | g
  · exact .inl (.inl (e _ _ g fun _ z => nomatch z))
  · exact .inl (.inr ⟨o, e _ _ g fun _ z => nomatch z⟩)
  · exact .inr g
theorem ExtN.sqT {a : Addr} {xs : List V} (e : ExtN H H') (h : SqT K H a xs) : SqT K H' a xs := by
  rcases h with (g | ⟨o, g⟩) | g
  · exact .inl (.inl (e _ _ g fun _ z => nomatch z))
  · exact .inl (.inr ⟨o, e _ _ g fun _ z => nomatch z⟩)
  · exact .inr g
theorem ExtN.code {c : V} {ns : List Int} (e : ExtN H H') (h : Code K H c ns) : Code K H' c ns := by
  obtain ⟨p, rfl, h | h⟩ := h
  · exact SqL.code (ExtN.sqL e h)
  · exact SqT.code (ExtN.sqT e h)
theorem TabsN.same {T : List NTab} (t : TabsN T H) (e : Same H H') : TabsN T H' := t.ext e
end
/-! ## found places -/
def spOn (K : PySem.W.Frag) (Nx : List Int → Int → Int → Prop) : Addr → Sp := fun a vs H Q _ => ∃ (ns : List Int) (i : Int), vs = [.int i] ∧ Code K H (.ref a) ns ∧ By ns ∧ ∀ (p : Addr) (H' : Hp) (L : List Int), Same H H' → H p = none → H' p = some (.lst (L.map V.int)) → (∀ k, k ∈ L ↔ Nx ns i k) → L.length ≤ 2 → Q (.ref p) H'
def OnP (K : PySem.W.Frag) (F : NF) (sp : Addr → Sp) : Prop := ∃ Nx, NxT F Nx ∧ sp = spOn K Nx
/-- numbers of places -/
abbrev Few (k : Int) : Prop := 0 ≤ k ∧ k < (1300 : Nat)
def sp_all_from (K : PySem.W.Frag) (_ : World) : Sp := fun vs H Q _ => ∃ (first : Int) (f : Addr) (F : NF) (Nx : List Int → Int → Int → Prop) (c : Addr) (o : Obj) (a : Addr) (ns : List Int), vs = [.int first, .ref f] ∧ NxT F Nx ∧ F.cl = [(("code" : Str), c)] ∧ o.data = .cell (some (.ref a)) ∧
  H f = some (FnO f F) ∧ H F.c = some (CodeO F.c F.qual) ∧ H c = some (CellO c o) ∧ f ≠ c ∧ F.c ≠ c ∧ Code K H (.ref a) ns ∧ a ≠ c ∧ By ns ∧ Few first ∧ (∀ x k, Nx ns x k → Few k) ∧
  ∀ (p : Addr) (H' : Hp) (L : List Int), Same H H' → H p = none → H' p = some (.lst (L.map V.int)) → L.Pairwise (· < ·) → (∀ k, k ∈ L ↔ Rch (Nx ns) first k) → Q (.ref p) H'
/-- all places of a code that are found -/
def Fnd (ns L : List Int) : Prop := L.Pairwise (· < ·) ∧ ∀ k, k ∈ L ↔ Rch (NxA ns) 0 k
def sp_found_places (K : PySem.W.Frag) (_ : World) : Sp := fun vs H Q _ => ∃ (c : V) (ns : List Int), vs = [c] ∧ Code K H c ns ∧ By ns ∧ ns.length ≤ 1000 ∧ TabsN (NT K) H ∧
  ∀ (p : Addr) (H' : Hp) (L : List Int), ExtN H H' → TabsN (NT K) H' → noT H p = none → H' p = some (.lst (L.map V.int)) → Fnd ns L → Q (.ref p) H'
def sp_found_places_onward (K : PySem.W.Frag) (_ : World) : Addr → Sp := spOn K NxA
theorem len_all_from {K : PySem.W.Frag} {w : World} {vs : List V} {H : Hp} {Q : VK} {E : XK} (h : sp_all_from K w vs H Q E) : vs.length = 2 := by
  obtain ⟨_, _, _, _, _, _, _, _, rfl, _⟩ := h
  rfl
theorem len_found_places {K : PySem.W.Frag} {w : World} {vs : List V} {H : Hp} {Q : VK} {E : XK} (h : sp_found_places K w vs H Q E) : vs.length = 1 := by
  obtain ⟨_, _, rfl, _⟩ := h
  rfl
theorem len_on {K : PySem.W.Frag} {Nx : List Int → Int → Int → Prop} {ws : List (Option V)} {vs : List V} {H : Hp} {Q : VK} {E : XK} (h : spCap (spOn K Nx) ws vs H Q E) : vs.length = 1 := by
  obtain ⟨_, _, _, _, rfl, _⟩ := h
  rfl
theorem Fnd.uniq {ns L M : List Int} (h : Fnd ns L) (g : Fnd ns M) : L = M := sorted_uniq h.1 g.1 fun k => (h.2 k).trans (g.2 k).symm
end Rl
namespace Rl
open PySem PySem.Spec PyProof.Rows L2 NdefX LamX
theorem nxA_few {ns : List Int} {x k : Int} (hb : By ns) (hl : ns.length ≤ 1000) (h : NxA ns x k) : Few k := by
  rcases h with h | h
  · unfold behind at h
    cases hr : rowAt ns x with
    | none => rw [hr] at h; cases h
    | some p =>
      obtain ⟨l, m⟩ := p
      rw [hr] at h
      have r := row_range hr
      have h2 : (if wordOf l ∈ endsT then none else some (x + m)) = some k := h
      split at h2
      · cases h2
      · cases h2
        exact ⟨by omega, by omega⟩
  · unfold tgt at h
    cases hr : rowAt ns x with
    | none => rw [hr] at h; cases h
    | some p =>
      obtain ⟨l, m⟩ := p
      obtain ⟨wd, rest, rfl, ht⟩ := row_shape hb hr
      rw [hr] at h
      have h2 : (if wd ∈ tgtT then some (numOf (.str wd :: rest)) else none) = some k := h
      split at h2
      · rename_i hw
        obtain ⟨n, rfl⟩ := ht hw
        cases h2
        have := row_byte hb hw hr
        show 0 ≤ n ∧ n < _
        omega
      · cases h2
theorem nxG_few {ns : List Int} {x k : Int} (hb : By ns) (hl : ns.length ≤ 1000) (h : NxG ns x k) : Few k := nxA_few hb hl (h.elim .inl fun z => .inr z.2)
theorem Code.but {K : PySem.W.Frag} {H : Hp} {a c : Addr} {ns : List Int} (h : Code K H (.ref a) ns) (n : a ≠ c) : Code K (Rl.but c H) (.ref a) ns := by
  obtain ⟨p, e, h⟩ := h
  cases e
  rcases h with ((g | ⟨o, g⟩) | g) | ((g | ⟨o, g⟩) | g)
  · exact SqL.code (.inl (.inl (but_get n g)))
  · exact SqL.code (.inl (.inr ⟨o, but_get n g⟩))
  · exact SqL.code (.inr g)
  · exact SqT.code (.inl (.inl (but_get n g)))
  · exact SqT.code (.inl (.inr ⟨o, but_get n g⟩))
  · exact SqT.code (.inr g)
end Rl
namespace Rl
open PySem PySem.Spec PyProof.Rows L2 NdefX LamX
/-! ## data that is kept where some things change -/
mutual
theorem Dp.by {K : PySem.W.Frag} {H H' : Hp} (eL : ∀ a xs, SqL K H a xs → SqL K H' a xs) (eT : ∀ a xs, SqT K H a xs → SqT K H' a xs) : ∀ {d : PyData} {v : V}, Dp K H v d → Dp K H' v d
  | _, _, .non => .non
  | _, _, .bl b => .bl b
  | _, _, .int i => .int i
  | _, _, .str x => .str x
  | _, _, .lst hs ha => .lst (eL _ _ hs) (DpAll.by eL eT ha)
  | _, _, .tup hs ha => .tup (eT _ _ hs) (DpAll.by eL eT ha)
theorem DpAll.by {K : PySem.W.Frag} {H H' : Hp} (eL : ∀ a xs, SqL K H a xs → SqL K H' a xs) (eT : ∀ a xs, SqT K H a xs → SqT K H' a xs) : ∀ {ds : List PyData} {vs : List V}, DpAll K H vs ds → DpAll K H' vs ds
  | _, _, .nil => .nil
  | _, _, .cons a b => .cons (Dp.by eL eT a) (DpAll.by eL eT b)
end
/-- no list in it -/
def NL : Nat → PyData → Prop
  | 0, .tuple _ => False
  | _, .list _ => False
  | n + 1, .tuple ds => ∀ d ∈ ds, NL n d
  | _, _ => True
section
variable {K : PySem.W.Frag} {H H' : Hp} {D : Addr}
theorem ExtN.dp {v : V} {d : PyData} (e : ExtN H H') (h : Dp K H v d) : Dp K H' v d := Dp.by (fun _ _ z => ExtN.sqL e z) (fun _ _ z => ExtN.sqT e z) h
theorem ExtN.dpAll {xs : List V} {ds : List PyData} (e : ExtN H H') (h : DpAll K H xs ds) : DpAll K H' xs ds := DpAll.by (fun _ _ z => ExtN.sqL e z) (fun _ _ z => ExtN.sqT e z) h
theorem noT_ext : ExtN H (noT H) := fun _ _ e n => noT_get e n
theorem sqT_off {a : Addr} {xs ys : List V} (hD : H D = some (.lst ys)) (h : SqT K H a xs) : SqT K (but D H) a xs := by
  rcases h with (g | ⟨o, g⟩) | g
  · exact .inl (.inl (but_get (fun z => by rw [z, hD] at g; cases g) g))
  · exact .inl (.inr ⟨o, but_get (fun z => by rw [z, hD] at g; cases g) g⟩)
  · exact .inr g
theorem DpAll.each {xs : List V} : ∀ {ds : List PyData}, (∀ d ∈ ds, ∀ v, Dp K H v d → Dp K H' v d) → DpAll K H xs ds → DpAll K H' xs ds := by
  intro ds f h
  induction xs generalizing ds with
  | nil =>
    cases h
    exact .nil
  | cons x xs ih =>
    cases h with
    | cons a b => exact .cons (f _ List.mem_cons_self _ a) (ih (fun d hd => f d (List.mem_cons_of_mem _ hd)) b)
theorem Dp.off {ys : List V} (hD : H D = some (.lst ys)) : ∀ {n : Nat} {d : PyData} {v : V}, NL n d → Dp K H v d → Dp K (but D H) v d
  | n, d, v, hn, h => by
    cases h with
    | non => exact .non
    | bl b => exact .bl b
    | int i => exact .int i
    | str x => exact .str x
    | lst hs ha => cases n <;> exact hn.elim
    | tup hs ha =>
      cases n with
      | zero => exact hn.elim
      | succ n => exact .tup (sqT_off hD hs) (DpAll.each (fun d hd v z => Dp.off hD (hn d hd) z) ha)
theorem DpAll.snoc {d : PyData} {v : V} (hv : Dp K H v d) : ∀ {xs : List V} {ds : List PyData}, DpAll K H xs ds → DpAll K H (xs ++ [v]) (ds ++ [d])
  | _, _, .nil => .cons hv .nil
  | _, _, .cons a b => .cons a (DpAll.snoc hv b)
end
theorem range_snoc {α : Type} (f : Nat → α) (i : Nat) : (List.range (i + 1)).map f = (List.range i).map f ++ [f i] := by
  rw [List.range_succ, List.map_append]
  rfl
theorem range_map {α β : Type} (f : α → β) (d : α) (xs : List α) : ((List.range xs.length).map fun i => f (xs.getD i d)) = xs.map f := by
  refine List.ext_getElem (by simp) fun i h1 h2 => ?_
  simp at h1
  simp [List.getD_eq_getElem?_getD, h1]
/-- a list comprehension whose elements are data -/
theorem lcDp {K : PySem.W.Frag} {σ : L2.St} {H : Hp} {Q : VK} {g : TG} {te : TE} {vs : List Nat} {J : It} {n : Nat} {G : Hp → Prop} {Y : Nat → Hp → V → Hp → Prop} (w : Walk J n G Y) (out : Nat → PyData) (hn : n < sizeLine) (hG : ∀ H', Same H H' → G H')
    (each : ∀ (D : Addr) (i : Nat) (x : V) (H1 H' : Hp) (Q' : VK), H D = none → i < n → Same H H1 → (∃ ys, H1 D = some (.lst ys)) → Y i H1 x H' → (∀ v H3, Same H1 H3 → Dp K (but D H3) v (out i) → Q' v H3) → g x (wipe σ vs) H' fun σ2 H2 => wipe σ2 vs = wipe σ vs ∧ te σ2 H2 Q')
    (q : ∀ (D : Addr) (H' : Hp) (xs : List V), H D = none → Same H H' → H' D = some (.lst xs) → DpAll K (but D H') xs ((List.range n).map out) → Q (.ref D) H') : ∀ D, H D = none → R.LcLoop J g tYes te vs σ D H Q := by
  intro D hD
  refine R.lcI w (fun i H' => Same H H' ∧ ∃ xs, H' D = some (.lst xs) ∧ xs.length = i ∧ DpAll K (but D H') xs ((List.range i).map out)) ⟨same_upd hD, [], upd_same, rfl, .nil⟩ (fun i H' _ z => hG H' z.1) ?_ ?_
  · rintro i x H1 H' hi ⟨z1, xs, z2, z3, z4⟩ y
    refine each D i x H1 H' (fun y H4 => ∃ got, H4 D = some (.lst got) ∧ got.length < sizeLine ∧ Same H (upd H4 D (.lst (got ++ [y]))) ∧ ∃ xs, (upd H4 D (.lst (got ++ [y]))) D = some (.lst xs) ∧ xs.length = i + 1 ∧ DpAll K (but D (upd H4 D (.lst (got ++ [y])))) xs ((List.range (i + 1)).map out)) hD hi z1 ⟨_, z2⟩ y fun v H3 e3 hv => ?_
    refine ⟨xs, e3 _ _ z2, by omega, Same.mut hD (z1.trans e3), xs ++ [v], upd_same, by rw [List.length_append, z3]; rfl, ?_⟩
    rw [but_upd, range_snoc]
    exact DpAll.snoc hv (DpAll.mono (Same.but e3) z4)
  · rintro H' ⟨z1, xs, z2, z3, z4⟩
    exact q D H' xs hD z1 z2 z4
end Rl
namespace Rl
open PySem PySem.Spec PyProof.Rows L2 NdefX LamX
section
variable {K : PySem.W.Frag} {H H' H'' : Hp}
theorem ExtN.free {p : Addr} (e : ExtN H H') (n : H' p = none) : noT H p = none := by
  cases z : noT H p with
  | none => rfl
  | some v =>
    have y := extN_noT e _ _ z
    rw [n] at y
    cases y
theorem ExtN.freeN {p : Addr} (e : ExtN H H') (n : noT H' p = none) : noT H p = none := by
  cases z : noT H p with
  | none => rfl
  | some v =>
    rw [noT_get (extN_noT e _ _ z) (noT_not z)] at n
    cases n
theorem ExtN.mut {p : Addr} {o : HO} (e : ExtN H H') (n : noT H p = none) : ExtN H (upd H' p o) := fun b u q m => by
  have ne : b ≠ p := fun z => by
    rw [z] at q
    rw [noT_get q m] at n
    cases n
  exact upd_mut ne (e b u q m)
/-- a snapshot without tables -/
theorem noT_ext' {B : Hp} (s : Same (noT B) H) (e : ExtN H H') : Same (noT B) H' := fun a o q => e a o (s a o q) (noT_not q)
theorem noT_out {B : Hp} {p : Addr} (s : Same (noT B) H) (n : noT H p = none) : noT B p = none := by
  cases z : noT B p with
  | none => rfl
  | some v =>
    rw [noT_get (s _ _ z) (noT_not z)] at n
    cases n
theorem TabsN.mut {T : List NTab} {p : Addr} {xs : List V} {o : HO} (t : TabsN T H) (h : H p = some (.lst xs)) : TabsN T (upd H p o) := fun u hu => by
  obtain ⟨ps, h1, h2, h3⟩ := t u hu
  refine ⟨ps, upd_mut (fun z => by rw [z, h] at h1; cases h1) h1, h2, fun pos cv hc => ?_⟩
  obtain ⟨c, e1, e2⟩ := h3 pos cv hc
  exact ⟨c, e1, upd_mut (fun z => by rw [z, h] at e2; unfold CodeO at e2; cases e2) e2⟩
theorem TabsN.fx {T : List NTab} {r : Addr} {S : Addr → Prop} (t : TabsN T H) (R : Reel H r S) (f : Fx r H H') : TabsN T H' := fun u hu => by
  obtain ⟨xs, hr⟩ := R.isL
  obtain ⟨ps, h1, h2, h3⟩ := t u hu
  refine ⟨ps, f.at (fun z => by rw [z, hr] at h1; cases h1) h1, h2, fun pos cv hc => ?_⟩
  obtain ⟨c, e1, e2⟩ := h3 pos cv hc
  exact ⟨c, e1, f.at (fun z => by rw [z, hr] at e2; unfold CodeO at e2; cases e2) e2⟩
theorem Reel.extN {r : Addr} {S : Addr → Prop} (h : Reel H r S) (e : ExtN H H') (hS : ∀ a, S a → ∃ xs : List V, H a = Option.some (HO.lst xs)) : Reel H' r S := by
  obtain ⟨g, c, k, st, gs, cs, h1, h2, h3, h4, h5, h6, h7, h8, h9, h10, h11, h12, h13⟩ := h
  refine ⟨g, c, k, st, gs, cs, e _ _ h1 (fun _ z => nomatch z), e _ _ h2 (fun _ z => nomatch z), e _ _ h3 (fun _ z => nomatch z), h4, h5, h6, h7, h8, h9, h10, h11, h12, fun a ha => ?_⟩
  obtain ⟨xs, z⟩ := hS a ha
  exact ⟨_, e _ _ z (fun _ y => nomatch y)⟩
end
/-- what was none of the reel's is changed -/
theorem Reel.app {H H' : Hp} {r p : Addr} {o : HO} (h : Reel H r S0) (n : noT H p = none) (e : ExtN H H') : Reel (upd H' p o) r S0 := by
  obtain ⟨g, c, k, st, gs, cs, h1, h2, h3, h4, h5, h6, h7, h8, h9, h10, h11, h12, h13⟩ := h
  have ne : ∀ {b : Addr} {xs : List V}, H b = Option.some (HO.lst xs) → b ≠ p := fun q z => by
    rw [← z, noT_get q fun _ y => nomatch y] at n
    cases n
  exact ⟨g, c, k, st, gs, cs, upd_mut (ne h1) (e _ _ h1 (fun _ z => nomatch z)), upd_mut (ne h2) (e _ _ h2 (fun _ z => nomatch z)), upd_mut (ne h3) (e _ _ h3 (fun _ z => nomatch z)), h4, h5, h6, h7, h8, h9, h10, h11, h12, fun a ha => ha.elim⟩
/-! ## rows are flat -/
def flatD : PyData → Prop
  | .tuple _ => False
  | .list _ => False
  | _ => True
theorem flatD.nl {d : PyData} (h : flatD d) (n : Nat) : NL n d := by
  cases d <;> first | exact h.elim | (cases n <;> exact True.intro)
theorem flatD.nrw {d : PyData} (h : flatD d) (n : Nat) : Nrw n d := by
  cases d <;> first | exact h.elim | (cases n <;> exact True.intro)
theorem rowAt_rowD {ns : List Int} {a m : Int} {l : List PyData} (h : rowAt ns a = some (l, m)) : ∃ b n, rowD b n = some l := by
  have r := row_range h
  obtain ⟨b, e⟩ : ∃ b, ns[a.toNat]? = some b := ⟨_, List.getElem?_eq_getElem (by omega)⟩
  rw [rowAt_in ⟨r.1, r.2.1⟩ e] at h
  split at h
  · split at h
    · cases g : rowD b (ns.getD (a.toNat + 1) 0) with
      | none => rw [g] at h; cases h
      | some l2 =>
        rw [g] at h
        cases h
        exact ⟨_, _, g⟩
    · cases h
  · cases g : rowD b 0 with
    | none => rw [g] at h; cases h
    | some l2 =>
      rw [g] at h
      cases h
      exact ⟨_, _, g⟩
theorem row_flat {ns : List Int} {a m : Int} {l : List PyData} (h : rowAt ns a = some (l, m)) : l.length ≤ 3 ∧ ∀ d ∈ l, flatD d := by
  obtain ⟨b, n, hl⟩ := rowAt_rowD h
  cases hd : dec b with
  | none =>
    unfold rowD at hl
    rw [hd] at hl
    cases hl
  | some p =>
    obtain ⟨w, sh⟩ := p
    rw [rowD_dec hd] at hl
    obtain rfl := Option.some.inj hl
    cases sh <;> refine ⟨Nat.le_of_ble_eq_true rfl, fun d hd => ?_⟩ <;> simp only [restD, List.mem_cons, List.not_mem_nil, or_false] at hd
    · rw [hd]; exact True.intro
    · rcases hd with rfl | rfl | rfl <;> exact True.intro
    · rcases hd with rfl | rfl | rfl <;> exact True.intro
    · rcases hd with rfl | rfl <;> exact True.intro
    · rcases hd with rfl | rfl <;> exact True.intro
theorem nl_atD (ns : List Int) (a : Int) : NL 2 (atD (rowAt ns a)) := by
  cases h : rowAt ns a with
  | none => exact True.intro
  | some p =>
    obtain ⟨l, m⟩ := p
    intro d hd
    rcases List.mem_cons.mp hd with rfl | hd
    · exact fun e he => ((row_flat h).2 e he).nl 0
    · rw [List.mem_singleton.mp hd]
      exact True.intro
theorem Fnd.few {ns L : List Int} (hb : By ns) (hl : ns.length ≤ 1000) (h : Fnd ns L) : L.length ≤ 1300 ∧ ∀ k ∈ L, Few k := by
  have f : ∀ k ∈ L, Few k := fun k hk => rch_in ((h.2 k).mp hk) ⟨by decide, by decide⟩ fun _ _ => nxA_few hb hl
  exact ⟨len_below (h.1.imp fun z => Int.ne_of_lt z) f, f⟩
end Rl
namespace Rl
open PySem PySem.Spec PyProof.Rows L2 NdefX LamX
/-! ## the law's own spread -/
def NxC (calls : Bool) : List Int → Int → Int → Prop := if calls then NxA else NxG
def sp_law_spread (K : PySem.W.Frag) (_ : World) : Sp := fun vs H Q _ => ∃ (t a : Addr) (ns : List Int) (first : Int) (calls : Bool), vs = [.ref t, .ref a, .int first, .bl calls] ∧ Tab H t tabT ∧ SqL K H a (ns.map V.int) ∧ By ns ∧ ns.length ≤ 1000 ∧ Few first ∧
  ∀ (p : Addr) (H' : Hp) (L : List Int), Same H H' → H p = none → H' p = some (.lst (L.map V.int)) → L.Pairwise (· < ·) → (∀ k, k ∈ L ↔ Rch (NxC calls ns) first k) → Q (.ref p) H'
theorem len_law_spread {K : PySem.W.Frag} {w : World} {vs : List V} {H : Hp} {Q : VK} {E : XK} (h : sp_law_spread K w vs H Q E) : vs.length = 4 := by
  obtain ⟨_, _, _, _, _, rfl, _⟩ := h
  rfl
end Rl
namespace Rl
open PySem PySem.Spec PyProof.Rows L2 NdefX LamX
theorem nt_start (K : PySem.W.Frag) (H : Hp) (h : ∀ p ∈ [He.cT K ("found_places", none)], H p.2 = some (.tbl #[])) : TabsN (NT K) H := fun p hp => by
  rw [List.mem_singleton.mp hp]
  exact TabN.nil (h _ (List.mem_singleton.mpr rfl))
theorem on_known (K : PySem.W.Frag) (w : World) {P : Program} {mg : Str → Option Value} {base : Heap} {k : Nat} (n : ∀ (f : Addr) (cl : List (Str × Addr)) (c2 : Addr), NOk P w K mg base CX0 k f (NF.of on_found_places "onward" on_q_found_places cl c2) ["address"] ["code"] (spCap (sp_found_places_onward K w)))
    {f : Addr} {F : NF} {sp : Addr → Sp} (h : OnP K F sp) : NOk P w K mg base CX0 k f F ["address"] ["code"] (spCap sp) := by
  obtain ⟨Nx, ⟨⟨cl, c, rfl⟩, rfl⟩, rfl⟩ := h
  exact n f cl c
end Rl
namespace Rl
open PySem PySem.Spec PyProof.Rows L2 NdefX LamX
/-- what found_rows tells of a place -/
def rowE (ns : List Int) (a : Int) : PyData := .tuple [.int a, match rowAt ns a with
  | some (l, _) => .tuple l
  | none => .none]
def sp_found_rows (K : PySem.W.Frag) (_ : World) : Sp := fun vs H Q _ => ∃ (c : V) (ns : List Int), vs = [c] ∧ Code K H c ns ∧ By ns ∧ ns.length ≤ 1000 ∧ TabsN (NT K) H ∧
  ∀ (p : Addr) (H' : Hp) (xs : List V) (L : List Int), ExtN H H' → TabsN (NT K) H' → noT H p = none → H' p = some (.lst xs) → DpAll K H' xs (L.map (rowE ns)) → Fnd ns L → Q (.ref p) H'
theorem len_found_rows {K : PySem.W.Frag} {w : World} {vs : List V} {H : Hp} {Q : VK} {E : XK} (h : sp_found_rows K w vs H Q E) : vs.length = 1 := by
  obtain ⟨_, _, rfl, _⟩ := h
  rfl
end Rl
namespace Rl
open PySem PySem.Spec PyProof.Rows L2 NdefX LamX
/-! ## sorted(d), d frozen or not -/
def rSortedR : List V → Hp → VK → Prop := fun xs H Q => ∃ (a : Addr) (kvs : List (Key × V)) (ks : List Int), xs = [.ref a] ∧ Rd H a (.dK kvs) ∧ kvs.map (·.1) = ks.map Sum.inl ∧
  ∀ (ys : List Int) (p : Addr), ys.Perm ks → ys.Pairwise (· ≤ ·) → H p = none → Q (.ref p) (upd H p (.lst (ys.map V.int)))
section
variable {X : Cx}
theorem cr_sortedR (calm : X.calm = true) : CallR X (.builtin "sorted") rSortedR := by
  intro pins s σ H xs us Q I r ⟨a, kvs, ks, ex, hd, hks, q⟩
  subst ex
  rw [Vals.ref1 r]
  obtain ⟨z, lo, vs, rel, dd⟩ := dk_rd I.hok hd
  obtain ⟨ep, at'⟩ := dd.dictAt
  have e1 : vs.map (·.1) = ks.map Sum.inl := rel.keys.symm.trans hks
  have e2 : kvs.length = vs.length := by simpa using congrArg List.length rel.keys
  have vz : vs.length ≤ sizeLine := e2 ▸ z
  refine Calls.call_function_entry kind_sorted plain_sorted entry_sorted (args_sorted1 _) ?_
  unfold Builtin.«sorted»
  refine wpAny_bind (m := checkCount "sorted" 1 1 _) (wpAny_pure ?_)
  refine wpAny_bind (PySem.W.kdu_collect (PySem.W.kdl_dict (knd := mixKind X.prog X.w) lo) (I.ok.hd calm) at' vz fun h1 tk acc kp got => ?_)
  have al : acc.toList.length = vs.length := by rw [Array.length_toList]; exact got.1
  have isI : IntsAre acc.toList ks := keys_ints e1 al fun j v e => got.2 j v (by rw [← Array.getElem?_toList]; exact e)
  have sz : acc.toList.length ≤ sizeLine := al ▸ vz
  have I1 : Inv X pins σ H { s with heap := h1, toks := tk } := I.kept kp
  refine wpAny_bind (wpAny_newList ?_ sz)
  have top : (h1.push (seqObj "list" acc.toList.toArray 0)).get? h1.objs.size = some (seqObj "list" acc.toList.toArray 0) := Heap.get?_push_size _ rfl
  show wpAny _ _ _ _ _ { s with heap := h1.push (seqObj "list" acc.toList.toArray 0), toks := tk }
  refine wpAny_bind (wpAny_holding (wpAny_call_entry slot_list_sort ⟨_, top, rfl⟩ entry_list_sort (SrtO.list_sort_ord (s := { s with heap := h1.push (seqObj "list" acc.toList.toArray 0), toks := tk }) SrtO.swo_int top sz (fun two => SrtO.ints_sortable isI two) fun out o1 o2 => ⟨_, rfl, ?_⟩) (args_list_sort _)))
  obtain ⟨k1, k2, k3⟩ := SrtO.ints_out isI o1 o2
  obtain ⟨n, hn⟩ := sortedHeap_at (vs := acc.toList) (out := out.toArray) top
  have zl : ((out.map SrtO.iv).map V.int).length ≤ sizeLine := by
    rw [List.length_map, k2.length_eq, ← isI.length]
    exact sz
  refine wpAny_pure ⟨_, rfl, .ref h1.objs.size, _, I1.laid (t' := tk) (o := .lst ((out.map SrtO.iv).map V.int)) (fun b u e => ?_) (Nat.le_refl _) ⟨zl, out, n, vals_of_ints k1, hn⟩, rfl, q _ _ k2 k3 (I1.hok.fresh (Nat.le_refl _))⟩
  have lb : b < h1.objs.size := Heap.lt_size e
  rw [sortedHeap_old (Nat.ne_of_lt lb) (Nat.lt_of_lt_of_eq (Nat.lt_succ_of_lt lb) (size_push' ..).symm)]
  exact Heap.get?_push_of_some _ e
/-- len(d), d frozen or not -/
def rLenR : List V → Hp → VK → Prop := fun xs H Q => ∃ (a : Addr) (kvs : List (Key × V)), xs = [.ref a] ∧ Rd H a (.dK kvs) ∧ Q (.int kvs.length) H
theorem call_lenR : CallR X (.builtin "len") rLenR := by
  intro pins s σ H xs us Q I r ⟨a, kvs, ex, hd, q⟩
  subst ex
  rw [Vals.ref1 r]
  exact d_len I hd fun t s' I' => ⟨.int kvs.length, H, I', ⟨_, rfl⟩, q⟩
end
end Rl
namespace Rl
open PySem PySem.Spec PyProof.Rows L2
/-! ## shapes: ways, as dicts of lists -/
open Classical in
/-- where a row goes on to, as a list -/
noncomputable def goL (ns : List Int) (a : Int) : List Int := if h : ∃ L, Goes ns a L then h.choose else []
theorem Goes.eq {ns L : List Int} {a : Int} (h : Goes ns a L) : goL ns a = L := by
  unfold goL
  rw [dif_pos ⟨L, h⟩]
  have g := Exists.choose_spec (⟨L, h⟩ : ∃ L, Goes ns a L)
  exact sorted_uniq g.1 h.1 fun k => (g.2 k).trans (h.2 k).symm
/-- numbers of places -/
def FewG (k : Int) : Prop := 0 ≤ k ∧ k < (1300 : Nat)
/-- ways: the places, what each goes on to -/
structure Ways (ks : List Int) (f : Int → List Int) : Prop where
  nd : ks.Nodup
  few : ∀ k ∈ ks, FewG k
  clo : ∀ k ∈ ks, ∀ x ∈ f k, x ∈ ks
  len : ∀ k ∈ ks, (f k).length ≤ 1300
theorem Ways.kl {ks : List Int} {f : Int → List Int} (h : Ways ks f) : ks.length ≤ 1300 := len_below h.nd h.few
/-- the ways of a part -/
structure Wy (ns : List Int) (e : Int) (ks : List Int) : Prop where
  w : Ways ks (goL ns)
  all : ∀ k, k ∈ ks ↔ Rch (fun x y => y ∈ goL ns x) e k
/-- a dict of lists, frozen or not -/
def GrD (H : Hp) (d : Addr) (ks : List Int) (f : Int → List Int) : Prop := ∃ kvs : List (Key × V), Rd H d (.dK kvs) ∧ kvs.map Prod.fst = ks.map Sum.inl ∧ ∀ k ∈ ks, ∃ l, valV kvs (Sum.inl k) = some (.ref l) ∧ H l = some (.lst ((f k).map V.int))
theorem rd_same {H H' : Hp} {d : Addr} {o : HO} (s : Same H H') (h : Rd H d o) : Rd H' d o := h.imp (s _ _) fun ⟨ob, e⟩ => ⟨ob, s _ _ e⟩
theorem GrD.same {H H' : Hp} {d : Addr} {ks : List Int} {f : Int → List Int} (h : GrD H d ks f) (s : Same H H') : GrD H' d ks f := by
  obtain ⟨kvs, g, e, v⟩ := h
  exact ⟨kvs, rd_same s g, e, fun k hk => by
    obtain ⟨l, h1, h2⟩ := v k hk
    exact ⟨l, h1, s _ _ h2⟩⟩
/-- all but d stays, d is read as it was -/
structure SmW (d : Addr) (H H' : Hp) : Prop where
  off : ∀ b o, b ≠ d → H b = some o → H' b = some o
  at_ : ∀ kvs, Rd H d (.dK kvs) → Rd H' d (.dK kvs)
theorem SmW.refl (d : Addr) (H : Hp) : SmW d H H := ⟨fun _ _ _ e => e, fun _ e => e⟩
theorem SmW.of {d : Addr} {H H' : Hp} (s : Same H H') : SmW d H H' := ⟨fun b o _ e => s b o e, fun _ e => rd_same s e⟩
theorem SmW.trans {d : Addr} {H H1 H2 : Hp} (a : SmW d H H1) (b : SmW d H1 H2) : SmW d H H2 := ⟨fun x o n e => b.off x o n (a.off x o n e), fun k e => b.at_ k (a.at_ k e)⟩
theorem rd_no {H : Hp} {d l : Addr} {kvs : List (Key × V)} {xs : List V} (h : Rd H d (.dK kvs)) (g : H l = some (.lst xs)) : l ≠ d := fun z => by
  subst z
  rcases h with h | ⟨ob, h⟩ <;> (rw [g] at h; cases h)
theorem SmW.frz {d : Addr} {H H2 : Hp} {o : Obj} {kvs : List (Key × V)} (h : Rd H d (.dK kvs)) (e : H2 d = some (.frz o (.dK kvs))) (s : ∀ b, b ≠ d → H2 b = H b) : SmW d H H2 := ⟨fun b u n z => (s b n).trans z, fun kv g => by
  have : kv = kvs := by
    rcases h with h | ⟨ob, h⟩ <;> rcases g with g | ⟨ob2, g⟩ <;> (rw [h] at g; cases g <;> rfl)
  rw [this]
  exact .inr ⟨o, e⟩⟩
theorem GrD.smd {H H' : Hp} {d : Addr} {ks : List Int} {f : Int → List Int} (h : GrD H d ks f) (s : SmW d H H') : GrD H' d ks f := by
  obtain ⟨kvs, g, e, v⟩ := h
  exact ⟨kvs, s.at_ _ g, e, fun k hk => by
    obtain ⟨l, h1, h2⟩ := v k hk
    exact ⟨l, h1, s.off _ _ (rd_no g h2) h2⟩⟩
theorem SmW.free {d x : Addr} {H H' : Hp} (s : SmW d H H') (n : x ≠ d) (e : H' x = none) : H x = none := by
  cases z : H x with
  | none => rfl
  | some o =>
    have := s.off x o n z
    rw [e] at this
    cases this
/-- where ways lead to, none by way of a barred one -/
def CT (f : Int → List Int) (bar : Option Int) (a k : Int) : Prop := bar ≠ some a ∧ Rch (fun x y => y ∈ f x ∧ bar ≠ some y) a k
open Classical in
/-- those that lead over k, in the order of S -/
noncomputable def ldL (f : Int → List Int) (e : Int) (S : List Int) (k : Int) : List Int := S.filter fun l => decide (¬ CT f (some l) e k)
/-- a new dict of new lists, no two the same -/
structure GrN (H0 H : Hp) (d : Addr) (ks : List Int) (g : Int → List Int) : Prop where
  ex : ∃ (kvs : List (Key × V)) (ad : Int → Addr), H d = some (.dK kvs) ∧ kvs.map Prod.fst = ks.map Sum.inl ∧ (∀ k ∈ ks, valV kvs (Sum.inl k) = some (.ref (ad k)) ∧ H (ad k) = some (.lst ((g k).map V.int)) ∧ H0 (ad k) = none ∧ ad k ≠ d) ∧ ∀ j ∈ ks, ∀ k ∈ ks, ad j = ad k → j = k
  new : H0 d = none
def sp_ways_within (K : PySem.W.Frag) (_ : World) : Sp := fun vs H Q _ => ∃ (c : V) (ns : List Int) (e : Int), vs = [c, .int e] ∧ Code K H c ns ∧ By ns ∧ ns.length ≤ 1000 ∧ FewG e ∧
  ∀ (d : Addr) (H' : Hp) (ks : List Int), Same H H' → H d = none → GrD H' d ks (goL ns) → Wy ns e ks → Q (.ref d) H'
def sp_come_to (_ : PySem.W.Frag) (_ : World) : Sp := fun vs H Q _ => ∃ (d : Addr) (a : Int) (bar : Option Int) (ks : List Int) (f : Int → List Int), vs = [.ref d, .int a, optV bar] ∧ GrD H d ks f ∧ Ways ks f ∧ a ∈ ks ∧
  ∀ (p : Addr) (H' : Hp) (fs : List Int), Same H H' → H p = none → H' p = some (.dK (dkv fs)) → fs.Nodup → (∀ k, k ∈ fs ↔ CT f bar a k) → Q (.ref p) H'
def sp_leaders (_ : PySem.W.Frag) (_ : World) : Sp := fun vs H Q _ => ∃ (d : Addr) (e : Int) (ks : List Int) (f : Int → List Int), vs = [.ref d, .int e] ∧ GrD H d ks f ∧ Ways ks f ∧ e ∈ ks ∧
  ∀ (p : Addr) (H' : Hp) (S : List Int), SmW d H H' → S.Perm ks → S.Pairwise (· < ·) → p ≠ d → GrN H H' p ks (ldL f e S) → Q (.ref p) H'
/-- what led_over tells of a row -/
noncomputable def ledE (ns : List Int) (e : Int) (S : List Int) (k : Int) : PyData := .tuple [.int k, .list ((ldL (goL ns) e S k).map PyData.int)]
/-- the rows of a part, by order -/
def PtS (ns : List Int) (e : Int) (S : List Int) : Prop := S.Pairwise (· < ·) ∧ ∀ k, k ∈ S ↔ Rch (fun x y => y ∈ goL ns x) e k
theorem PtS.uniq {ns S T : List Int} {e : Int} (h : PtS ns e S) (g : PtS ns e T) : S = T := sorted_uniq h.1 g.1 fun k => (h.2 k).trans (g.2 k).symm
/-- pairs in a told list, each with a list of its own -/
def LedI (H0 H : Hp) (p : Addr) (xs : List V) (ns : List Int) (e : Int) (S : List Int) : Prop := ∃ ad : Int → Addr, xs.length = S.length ∧ (∀ (j : Nat) (x : V), xs[j]? = some x → ∃ (q : Addr) (k : Int), S[j]? = some k ∧ x = .ref q ∧ H q = some (.tup [.int k, .ref (ad k)]) ∧ H0 q = none) ∧
  (∀ k ∈ S, H (ad k) = some (.lst ((ldL (goL ns) e S k).map V.int)) ∧ H0 (ad k) = none ∧ ad k ≠ p) ∧ ∀ j ∈ S, ∀ k ∈ S, ad j = ad k → j = k
def sp_led_over (K : PySem.W.Frag) (_ : World) : Sp := fun vs H Q _ => ∃ (c : V) (ns : List Int) (e : Int), vs = [c, .int e] ∧ Code K H c ns ∧ By ns ∧ ns.length ≤ 1000 ∧ FewG e ∧
  ∀ (p : Addr) (H' : Hp) (xs : List V) (S : List Int), Same H H' → H p = none → H' p = some (.lst xs) → PtS ns e S → LedI H H' p xs ns e S → Q (.ref p) H'
section
variable {K : PySem.W.Frag} {w : World} {vs : List V} {H : Hp} {Q : VK} {E : XK}
theorem len_ways_within (h : sp_ways_within K w vs H Q E) : vs.length = 2 := by
  obtain ⟨_, _, _, rfl, _⟩ := h
  rfl
theorem len_come_to (h : sp_come_to K w vs H Q E) : vs.length = 3 := by
  obtain ⟨_, _, _, _, _, rfl, _⟩ := h
  rfl
theorem len_leaders (h : sp_leaders K w vs H Q E) : vs.length = 2 := by
  obtain ⟨_, _, _, _, rfl, _⟩ := h
  rfl
theorem len_led_over (h : sp_led_over K w vs H Q E) : vs.length = 2 := by
  obtain ⟨_, _, _, rfl, _⟩ := h
  rfl
end
/-! ### plain: what is found, what waits -/
structure WI (N : Int → Int → Prop) (a : Int) (ks ws : List Int) : Prop where
  nd : ks.Nodup
  fst : a ∈ ks ∨ a ∈ ws
  rk : ∀ k ∈ ks, Rch N a k
  rw_ : ∀ k ∈ ws, Rch N a k
  clo : ∀ k ∈ ks, ∀ j, N k j → j ∈ ks ∨ j ∈ ws
section
variable {N : Int → Int → Prop} {a x : Int} {ks ws L : List Int}
theorem WI.start : WI N a [] [a] := ⟨List.nodup_nil, .inr (List.mem_singleton.mpr rfl), (fun _ h => nomatch h), fun k h => by
  rw [List.mem_singleton.mp h]
  exact .here, (fun _ h => nomatch h)⟩
theorem WI.old (h : WI N a ks (ws ++ [x])) (hx : x ∈ ks) : WI N a ks ws := by
  have sp : ∀ j, j ∈ ks ∨ j ∈ ws ++ [x] → j ∈ ks ∨ j ∈ ws := fun j hj => by
    rcases hj with hj | hj
    · exact .inl hj
    · rcases List.mem_append.mp hj with hj | hj
      · exact .inr hj
      · rw [List.mem_singleton.mp hj]
        exact .inl hx
  exact ⟨h.nd, sp _ h.fst, h.rk, fun k hk => h.rw_ k (List.mem_append_left _ hk), fun k hk j n => sp _ (h.clo k hk j n)⟩
theorem WI.new (h : WI N a ks (ws ++ [x])) (hx : x ∉ ks) (hL : ∀ j, j ∈ L ↔ N x j) : WI N a (ks ++ [x]) (ws ++ L) := by
  have rx : Rch N a x := h.rw_ x (List.mem_append_right _ (List.mem_singleton.mpr rfl))
  have sp : ∀ j, j ∈ ks ∨ j ∈ ws ++ [x] → j ∈ ks ++ [x] ∨ j ∈ ws ++ L := fun j hj => by
    rcases hj with hj | hj
    · exact .inl (List.mem_append_left _ hj)
    · rcases List.mem_append.mp hj with hj | hj
      · exact .inr (List.mem_append_left _ hj)
      · exact .inl (List.mem_append_right _ hj)
  refine ⟨?_, sp _ h.fst, fun k hk => ?_, fun k hk => ?_, fun k hk j n => ?_⟩
  · refine List.nodup_append.mpr ⟨h.nd, by simp, fun u hu v hv e => ?_⟩
    rw [List.mem_singleton.mp hv] at e
    exact hx (e ▸ hu)
  · rcases List.mem_append.mp hk with hk | hk
    · exact h.rk k hk
    · rw [List.mem_singleton.mp hk]
      exact rx
  · rcases List.mem_append.mp hk with hk | hk
    · exact h.rw_ k (List.mem_append_left _ hk)
    · exact rx.on ((hL k).mp hk)
  · rcases List.mem_append.mp hk with hk | hk
    · exact sp _ (h.clo k hk j n)
    · rw [List.mem_singleton.mp hk] at n
      exact .inr (List.mem_append_right _ ((hL j).mpr n))
theorem WI.all (h : WI N a ks []) (k : Int) : k ∈ ks ↔ Rch N a k := ⟨h.rk k, fun r => by
  induction r with
  | here => exact h.fst.elim id fun z => nomatch z
  | on _ n ih => exact (h.clo _ ih _ n).elim id fun z => nomatch z⟩
end
theorem rch_mono {N M : Int → Int → Prop} {a k : Int} (m : ∀ x y, N x y → M x y) (h : Rch N a k) : Rch M a k := by
  induction h with
  | here => exact .here
  | on _ n ih => exact ih.on (m _ _ n)
end Rl
namespace Rl
open PySem PySem.Spec PyProof.Rows L2 NdefX LamX
/-! ## sorted(a set of ints), of any number of members -/
def rSortedSetR (w : World) : List V → Hp → VK → Prop := fun vs H Q => ∃ (a : Addr) (S : Int → Bool) (n : Nat), vs = [V.ref a] ∧ H a = some (SetO w a S n) ∧ n < 5000 ∧
  ∀ (ns : List Int) (p : Addr), ns.Pairwise (· < ·) → (∀ k : Int, k ∈ ns ↔ S k = true) → H p = none → Q (.ref p) (upd H p (.lst (ns.map V.int)))
section
variable {X : Cx}
theorem sorted_setR {P : Program} {w : World} {A : Around} {E : Value → Shared → Prop} {s : Shared} {a : Addr} {S : Int → Bool} {n : Nat} {Q : Value → Shared → Prop} (R : SetR w s.heap a S n) (hh : A.handled = none) (hz : n < 5000)
    (hQ : ∀ s' p (out : Array Value) (c : Nat) (ns : List Int), (∀ b o, s.heap.get? b = some o → s'.heap.get? b = some o) → s'.gens = s.gens → s'.os = s.os → s.heap.objs.size ≤ p →
      s'.heap.get? p = some (seqObj "list" out c) → IntsAre out.toList ns → ns.Pairwise (· < ·) → (∀ k, k ∈ ns ↔ S k = true) → ns.length = n → Q (.ref p) s') :
    wpAny (model P w) A (call (.builtin "sorted") [.ref a]) Q E s := by
  obtain ⟨o, es, ep, t, ho, hex, hd, g, nd, hm, hb, hf, hn, hr, hl⟩ := R
  refine Calls.call_function_entry kind_sorted plain_sorted entry_sorted (args_sorted1 _) ?_
  unfold Builtin.«sorted»
  refine wpAny_bind (m := checkCount "sorted" 1 1 _) (wpAny_pure ?_)
  refine wpAny_bind (collect_set (A := A.in1) hh ⟨o, ho, hex.1, hd⟩ hf hb hr hl fun s1 vs k1 hz1 g1 o1 pm => ?_)
  have hvl : vs.length = n := by rw [pm.length_eq, List.length_map, Array.length_toList]; exact hn
  have hI : IntsAre vs (vs.map Builtin.Re.reRawOf) := L2.ints_of vs fun v hv => by
    obtain ⟨e, he, q⟩ := List.mem_map.mp (pm.mem_iff.mp hv)
    obtain ⟨k, tk, h1, _⟩ := g e he
    exact ⟨k, tk, by rw [← q]; exact h1⟩
  have pk : (vs.map Builtin.Re.reRawOf).Perm (es.toList.map keyOf) := by
    have q := pm.map Builtin.Re.reRawOf
    rw [List.map_map] at q
    exact q
  have sz : vs.length ≤ sizeLine := by rw [hvl, sizeLine_eq]; omega
  refine wpAny_bind (wpAny_newList ?_ sz)
  have hoL : (s1.heap.push (seqObj "list" vs.toArray 0)).get? s1.heap.objs.size = some (seqObj "list" vs.toArray 0) := Heap.get?_push_size _ rfl
  refine wpAny_bind (wpAny_holding (wpAny_call_entry slot_list_sort ⟨_, hoL, rfl⟩ entry_list_sort (SrtO.list_sort_ord (s := { s1 with heap := s1.heap.push (seqObj "list" vs.toArray 0) }) SrtO.swo_int hoL sz (fun two => SrtO.ints_sortable hI two) fun out b1 b2 => ⟨_, rfl, ?_⟩) (args_list_sort _)))
  obtain ⟨a1, a2, a3⟩ := SrtO.ints_out hI b1 b2
  obtain ⟨c, hc⟩ := sortedHeap_at (vs := vs) (out := out.toArray) hoL
  have pn : (out.map SrtO.iv).Perm (es.toList.map keyOf) := a2.trans pk
  refine wpAny_pure ⟨_, rfl, hQ _ s1.heap.objs.size out.toArray c (out.map SrtO.iv) (fun b u e => ?_) g1 o1 hz1 hc a1 (lt_of_le_nodup _ a3 (pn.nodup_iff.mpr nd)) (fun k => by rw [pn.mem_iff, ← hm k]) ?_⟩
  · have q := k1 b u e
    have hlt := Heap.lt_size q
    show (sortedHeap (s1.heap.push (seqObj "list" vs.toArray 0)) s1.heap.objs.size vs out.toArray).get? b = some u
    rw [sortedHeap_old (Nat.ne_of_lt hlt) (by rw [size_push']; exact Nat.lt_succ_of_lt hlt)]
    exact Heap.get?_push_of_some _ q
  · rw [pn.length_eq, List.length_map, Array.length_toList]; exact hn
theorem cr_sortedSetR (hc : X.calm = true) : CallR X (.builtin "sorted") (rSortedSetR X.w) := by
  intro pins s σ H vs us Q I r h
  obtain ⟨a, S, n, rfl, ha, hn5, q⟩ := h
  have R := setO_get I ha
  rw [Vals.ref1 r]
  refine sorted_setR R (I.ok.hd hc) hn5 fun s' p out c ns k g o hp hg hi hs hm hl => ?_
  have hlen : (ns.map V.int).length ≤ sizeLine := by rw [List.length_map, hl, sizeLine_eq]; omega
  have hn : H p = none := I.hok.fresh hp
  have J : Inv X pins σ (upd H p (.lst (ns.map V.int))) { s with heap := s'.heap, gens := s'.gens, drawn := s'.drawn, toks := s'.toks } :=
    I.call (ch := []) (Un.laid k hp hn) (I.hok.laid k hp ⟨hlen, out.toList, c, vals_of_ints hi, hg⟩) (by rw [g]; exact I.bare) (fun _ z => nomatch z)
  have e : s' = { s with heap := s'.heap, gens := s'.gens, drawn := s'.drawn, toks := s'.toks } := by
    cases s'
    cases s
    simp only at g o ⊢
    subst g o
    rfl
  rw [e]
  exact ⟨.ref p, _, J, rfl, q ns p hs hm hn⟩
end
end Rl
namespace Rl
open PySem PySem.Spec PyProof.Rows L2
/-! ## name = {..: .. for ..} on one line, the name a local -/
theorem sw_trueD {kx vx : Expr} {gs : List Comprehension} {scope : Scope} {pos py : Pos} {y : Str} {l : Nat} {env : Env} (hk : env.scope.kind = .function) (hy : env.scope.names.lookup y = some .local) (hl : (py.line == pos.line) = true)
    (ha : (scope.names.any fun (n, k) => n == y && (k == .local || k == .cell)) = false) : swapsWith (.DictComp kx vx gs scope pos) (some (.Name y py)) l env = pure true := by
  have ky : env.kindOf y = some .local := hy
  have hb : env.blockKind = .function := by unfold Env.blockKind; rw [hk]; rfl
  unfold swapsWith
  simp only [hb, ky, ha, Expr.pos, hl]
  rfl
theorem ps_setDc {X : Cx} {i : Nat} {y : Str} {py : Pos} {kx vx tg iter : Expr} {ifs : List Expr} {scope : Scope} {own : List (Str × Nat)} {pos spos : Pos} {wi : TI} {g : TG} {tt : TT} {tk tv : TE} (hc : X.calm = true) (hN : X.N.Nodup) (hy : X.N[i]? = some y) (hyl : X.env.scope.names.lookup y = some .local)
    (hsw : swapsWith (.DictComp kx vx [⟨tg, iter, ifs, 0⟩] scope pos) (some (.Name y py)) spos.line X.env = pure true) (hi : PI X tg iter wi) (ok : BlkOk X.N X.env.scope scope own)
    (hg : ∀ (s : Shared) (H : Hp) (C : Addr) (cl : List (Str × Addr)) (fp : List Addr), PG (X.blk s H scope (compEnvC scope cl C X.env) fp) tg g) (ht : ∀ (s : Shared) (H : Hp) (C : Addr) (cl : List (Str × Addr)) (fp : List Addr), PTs (X.blk s H scope (compEnvC scope cl C X.env) fp) ifs tt)
    (hk : ∀ (s : Shared) (H : Hp) (C : Addr) (cl : List (Str × Addr)) (fp : List Addr), PE (X.blk s H scope (compEnvC scope cl C X.env) fp) kx tk)
    (he : ∀ (s : Shared) (H : Hp) (C : Addr) (cl : List (Str × Addr)) (fp : List Addr), PE (X.blk s H scope (compEnvC scope cl C X.env) fp) vx tv) (hs : ∀ x, foldedSetIterable iter X.env x = pure x := by intro _; rfl) :
    PS X (.Assign [.Name y py] (.DictComp kx vx [⟨tg, iter, ifs, 0⟩] scope pos) spos) (tAsg (tDc wi g tt tk tv (own.map (·.2))) (gName i)) := by
  refine ⟨fun pins s σ H D I h => ?_⟩
  rw [exec_Assign_Name_used _ _ _ _ hsw]
  refine wpAny_bind (wpAny_standAt (wpAny_bind ?_))
  show wpAny _ X.A (do let _ ← comprehension (.DictComp kx vx [⟨tg, iter, ifs, 0⟩] scope pos) scope X.env (firstIterPos [⟨tg, iter, ifs, 0⟩] pos) newDict false (eval iter X.env) (some (assign (.Name y py) X.env))) _ _ s
  have h : tDc wi g tt tk tv (own.map (·.2)) σ H (fun x H1 => gName i x σ H1 D.nx) := h
  refine wpAny_bind (thn (dc_core (Qf := fun _ s' => SP X pins D .next s') hc hN I hi ok hg ht hk he hs h fun L C s' m H' I' q hn f => ?_) fun _ s' hq => wpAny_pure (wpAny_pure hq))
  show wpAny _ _ (assign (.Name y py) X.env (.ref L)) _ _ _
  refine wpAny_assign_Name (store_ok2 (v := V.ref L) I' hN hy (.inl hyl) rfl (fun s2 I2 ⟨a, sb, ha⟩ => ?_) (.inr hyl))
  obtain ⟨f0, f1, f2, f3, f4, f5⟩ := f
  have haC : C ≠ a := by
    rcases ha with z | z
    · rw [z]; exact f1
    · exact fun e => f4 y a z e.symm
  refine ⟨m, hn.sameBut sb haC, fun h3 sb3 => ?_⟩
  exact ⟨_, H', I2.turned (t' := s2.toks) (fun b o hb e => (sb3.2 b hb).trans e) f0 f1 f3 f4 f5, q⟩
end Rl
namespace Rl
open PySem PySem.Spec PyProof.Rows L2
/-! ## what leads over what: plain -/
section
variable {f : Int → List Int} {e k o x y : Int} {S : List Int}
abbrev Stp (f : Int → List Int) : Int → Int → Prop := fun x y => y ∈ f x
theorem ct_on {b : Option Int} (h : CT f b e x) (n : k ∈ f x) (z : b ≠ some k) : CT f b e k := ⟨h.1, h.2.on ⟨n, z⟩⟩
theorem dom_self : ¬ CT f (some k) e k := fun ⟨h, r⟩ => by
  cases r with
  | here => exact h rfl
  | on _ n => exact n.2 rfl
theorem dom_entry : ¬ CT f (some e) e k := fun h => h.1 rfl
theorem dom_trans (h1 : ¬ CT f (some o) e x) (h2 : ¬ CT f (some x) e k) : ¬ CT f (some o) e k := fun ⟨h0, r⟩ => by
  have key : ∀ {k}, Rch (fun x y => y ∈ f x ∧ some o ≠ some y) e k → CT f (some x) e k := fun {k} r => by
    induction r with
    | here => exact ⟨fun z => h1 (by cases z; exact ⟨h0, .here⟩), .here⟩
    | on r n ih =>
      refine ct_on ih n.1 fun w => h1 ?_
      rw [Option.some.inj w]
      exact ⟨h0, r.on n⟩
  exact h2 (key r)
theorem dom_chain (hr : Rch (Stp f) e k) (h1 : ¬ CT f (some o) e k) (h2 : ¬ CT f (some x) e k) : ¬ CT f (some o) e x ∨ ¬ CT f (some x) e o := by
  by_cases g1 : CT f (some o) e x
  · by_cases g2 : CT f (some x) e o
    · exfalso
      have key : ∀ {k}, Rch (Stp f) e k → CT f (some o) e k ∨ CT f (some x) e k := fun {k} r => by
        induction r with
        | here => exact .inl ⟨g1.1, .here⟩
        | on r n ih =>
          rename_i y k
          rcases ih with ih | ih
          · by_cases z : o = k
            · exact .inr (z ▸ g2)
            · exact .inl (ct_on ih n fun w => z (Option.some.inj w))
          · by_cases z : x = k
            · exact .inl (z ▸ g1)
            · exact .inr (ct_on ih n fun w => z (Option.some.inj w))
      exact (key hr).elim h1 h2
    · exact .inr g2
  · exact .inl g1
theorem dom_step (n : k ∈ f x) (h : ¬ CT f (some o) e k) (ne : o ≠ k) : ¬ CT f (some o) e x := fun z => h (ct_on z n fun w => ne (Option.some.inj w))
theorem mem_ldL : o ∈ ldL f e S k ↔ o ∈ S ∧ ¬ CT f (some o) e k := by
  unfold ldL
  rw [List.mem_filter]
  simp only [decide_eq_true_eq]
theorem ldL_lt (h : S.Pairwise (· < ·)) : (ldL f e S k).Pairwise (· < ·) := List.Pairwise.filter _ h
theorem ldL_len : (ldL f e S k).length ≤ S.length := List.length_filter_le _ _
end
/-! ## rows of parts -/
theorem opts_sorted (a b : Option Int) : ∃ L : List Int, L.Pairwise (· < ·) ∧ ∀ k, k ∈ L ↔ (a = some k ∨ b = some k) := by
  cases a with
  | none =>
    cases b with
    | none => exact ⟨[], List.Pairwise.nil, fun k => by simp⟩
    | some y => exact ⟨[y], List.pairwise_singleton .., fun k => by simp [eq_comm]⟩
  | some x =>
    cases b with
    | none => exact ⟨[x], List.pairwise_singleton .., fun k => by simp [eq_comm]⟩
    | some y =>
      rcases Int.lt_trichotomy x y with h | h | h
      · exact ⟨[x, y], by simp [h], fun k => by simp [eq_comm]⟩
      · exact ⟨[x], List.pairwise_singleton .., fun k => by simp [h, eq_comm]⟩
      · exact ⟨[y, x], by simp [h], fun k => by simp [eq_comm, or_comm]⟩
theorem goes_ex (ns : List Int) (a : Int) : ∃ L, Goes ns a L := by
  obtain ⟨L, h1, h2⟩ := opts_sorted (behind ns a) (if isCall ns a then none else tgt ns a)
  refine ⟨L, h1, fun k => (h2 k).trans (or_congr Iff.rfl ?_)⟩
  cases isCall ns a with
  | true => simp
  | false => simp
theorem mem_goN {ns : List Int} {x k : Int} : k ∈ goL ns x ↔ NxG ns x k := by
  obtain ⟨L, h⟩ := goes_ex ns x
  rw [h.eq]
  exact h.2 k
theorem rchN {ns : List Int} {e k : Int} : Rch (NxG ns) e k ↔ Rch (fun x y => y ∈ goL ns x) e k := ⟨rch_mono fun _ _ h => mem_goN.mpr h, rch_mono fun _ _ h => mem_goN.mp h⟩
end Rl
namespace Rl
open PySem PySem.Spec PyProof.Rows L2
/-- those that lead over k, in any order -/
def Over (ks : List Int) (f : Int → List Int) (e k : Int) (L : List Int) : Prop := L.Nodup ∧ ∀ l, l ∈ L ↔ l ∈ ks ∧ ¬ CT f (some l) e k
end Rl
namespace Rl
open PySem PySem.Spec PyProof.Rows L2
/-! ## turns back, rings of ways -/
open Classical in
/-- o leads over a -/
noncomputable def isTurn (f : Int → List Int) (e a o : Int) : Bool := decide (¬ CT f (some o) e a)
theorem isTurn_iff {f : Int → List Int} {e a o : Int} : isTurn f e a o = true ↔ ¬ CT f (some o) e a := by
  simp only [isTurn, decide_eq_true_eq]
/-- turns back, row by row -/
noncomputable def trnL (f : Int → List Int) (e : Int) (S : List Int) : List (Int × Int) := S.flatMap fun a => ((f a).filter (isTurn f e a)).map fun o => (a, o)
/-- ways without turns back -/
noncomputable def cutG (f : Int → List Int) (e k : Int) : List Int := (f k).filter fun o => !isTurn f e k o
/-- k stands on a ring of ways -/
def RingG (h : Int → List Int) (k : Int) : Prop := ∃ o ∈ h k, Rch (fun x y => y ∈ h x) o k
open Classical in
/-- the first that stands on a ring of ways that are no turns back -/
noncomputable def nlS (f : Int → List Int) (e : Int) (S : List Int) : Option Int := S.find? fun k => decide (RingG (cutG f e) k)
theorem Ways.cut {ks : List Int} {f : Int → List Int} (h : Ways ks f) (e : Int) : Ways ks (cutG f e) := ⟨h.nd, h.few, fun k hk x hx => h.clo k hk x (List.mem_filter.mp hx).1, fun k hk => Nat.le_trans (List.length_filter_le _ _) (h.len k hk)⟩
theorem ct_none {h : Int → List Int} {a k : Int} : CT h none a k ↔ Rch (fun x y => y ∈ h x) a k := ⟨fun z => rch_mono (fun _ _ n => n.1) z.2, fun z => ⟨(fun n => nomatch n), rch_mono (fun _ _ n => ⟨n, (fun y => nomatch y)⟩) z⟩⟩
/-- a dict with pairs as keys -/
def DTp (H : Hp) (p : Addr) (P : Int → Int → Prop) : Prop := ∃ kvs : List (List Key × V), H p = some (.dT kvs) ∧ kvs.length ≤ 1700000 ∧ (∀ k ∈ kvs.map Prod.fst, ∃ a o : Int, k = [Sum.inl a, Sum.inl o]) ∧ ∀ a o : Int, (valV kvs [Sum.inl a, Sum.inl o]).isSome = true ↔ P a o
theorem DTp.same {H H' : Hp} {p : Addr} {P : Int → Int → Prop} (h : DTp H p P) (s : Same H H') : DTp H' p P := by
  obtain ⟨kvs, g, l, n, v⟩ := h
  exact ⟨kvs, s _ _ g, l, n, v⟩
/-- the same for some pairs -/
def DTq (H : Hp) (p : Addr) (ps : List (Int × Int)) : Prop := ∃ kvs : List (List Key × V), H p = some (.dT kvs) ∧ kvs.length ≤ ps.length ∧ (∀ k ∈ kvs.map Prod.fst, ∃ a o : Int, k = [Sum.inl a, Sum.inl o]) ∧ ∀ a o : Int, (valV kvs [Sum.inl a, Sum.inl o]).isSome = true ↔ (a, o) ∈ ps
theorem DTq.same {H H' : Hp} {p : Addr} {ps : List (Int × Int)} (h : DTq H p ps) (s : Same H H') : DTq H' p ps := by
  obtain ⟨kvs, g, l, n, v⟩ := h
  exact ⟨kvs, s _ _ g, l, n, v⟩
theorem DTq.new {H : Hp} {p : Addr} : DTq (upd H p (.dT [])) p [] := ⟨[], upd_same, Nat.le_refl _, (fun _ h => nomatch h), fun a o => ⟨(fun z => by cases z), fun z => nomatch z⟩⟩
theorem DTq.put {H : Hp} {p : Addr} {ps : List (Int × Int)} {kvs : List (List Key × V)} {a o : Int} {v : V} (h : DTq H p ps) (g : H p = some (.dT kvs)) : DTq (upd H p (.dT (putK kvs [Sum.inl a, Sum.inl o] v))) p (ps ++ [(a, o)]) := by
  obtain ⟨kvs', g', l, n, iv⟩ := h
  rw [g] at g'
  cases g'
  refine ⟨_, upd_same, ?_, fun k hk => ?_, fun x y => ?_⟩
  · rw [List.length_append]
    exact Nat.le_trans (length_putK _ _ _) (Nat.add_le_add_right l 1)
  · unfold putK at hk
    split at hk
    · rw [List.map_map] at hk
      obtain ⟨kv, h1, h2⟩ := List.mem_map.mp hk
      refine n k (List.mem_map.mpr ⟨kv, h1, ?_⟩)
      rw [← h2]
      show _ = (if kv.1 = _ then (kv.1, v) else kv).1
      split <;> rfl
    · rw [List.map_append] at hk
      rcases List.mem_append.mp hk with hk | hk
      · exact n k hk
      · exact ⟨a, o, List.mem_singleton.mp hk⟩
  · rw [valV_put]
    by_cases z : ([Sum.inl x, Sum.inl y] : List Key) = [Sum.inl a, Sum.inl o]
    · rw [if_pos z]
      obtain ⟨rfl, rfl⟩ : x = a ∧ y = o := by
        injection z with z1 z2
        injection z2 with z3 _
        exact ⟨Sum.inl.inj z1, Sum.inl.inj z3⟩
      exact ⟨fun _ => List.mem_append_right _ (List.mem_singleton.mpr rfl), fun _ => rfl⟩
    · rw [if_neg z, iv, List.mem_append, List.mem_singleton]
      constructor
      · exact .inl
      · rintro (y1 | y1)
        · exact y1
        · cases y1
          exact absurd rfl z
theorem DTq.to {H : Hp} {p : Addr} {ps : List (Int × Int)} {P : Int → Int → Prop} (h : DTq H p ps) (hl : ps.length ≤ 1700000) (hp : ∀ a o, (a, o) ∈ ps ↔ P a o) : DTp H p P := by
  obtain ⟨kvs, g, l, n, v⟩ := h
  exact ⟨kvs, g, Nat.le_trans l hl, n, fun a o => (v a o).trans (hp a o)⟩
/-- a list of new pairs -/
def TpL (H0 H : Hp) (xs : List V) (ps : List (Int × Int)) : Prop := xs.length = ps.length ∧ ∀ (j : Nat) (x : V), xs[j]? = some x → ∃ (q : Addr) (ao : Int × Int), ps[j]? = some ao ∧ x = .ref q ∧ H q = some (.tup [.int ao.1, .int ao.2]) ∧ H0 q = none
/-- a dict of dicts: what leads over what -/
def OvD (H : Hp) (o : Addr) (ks : List Int) (f : Int → List Int) (e : Int) : Prop := ∃ (kvs : List (Key × V)) (S : List Int), H o = some (.dK kvs) ∧ kvs.map Prod.fst = S.map Sum.inl ∧ S.Perm ks ∧ ∀ k ∈ ks, ∃ (a : Addr) (L : List Int), valV kvs (Sum.inl k) = some (.ref a) ∧ Rd H a (.dK (dkv L)) ∧ Over ks f e k L
theorem OvD.same {H H' : Hp} {o : Addr} {ks : List Int} {f : Int → List Int} {e : Int} (h : OvD H o ks f e) (s : Same H H') : OvD H' o ks f e := by
  obtain ⟨kvs, S, g, h1, h2, h3⟩ := h
  exact ⟨kvs, S, s _ _ g, h1, h2, fun k hk => by
    obtain ⟨a, L, x, y, z⟩ := h3 k hk
    exact ⟨a, L, x, rd_same s y, z⟩⟩
def sp_turns_back (_ : PySem.W.Frag) (_ : World) : Sp := fun vs H Q _ => ∃ (d : Addr) (e : Int) (ks : List Int) (f : Int → List Int), vs = [.ref d, .int e] ∧ GrD H d ks f ∧ Ways ks f ∧ e ∈ ks ∧
  ∀ (p : Addr) (H' : Hp) (xs : List V) (S : List Int), SmW d H H' → S.Perm ks → S.Pairwise (· < ·) → H p = none → p ≠ d → H' p = some (.lst xs) → TpL H H' xs (trnL f e S) → Q (.ref p) H'
def sp_not_led (K : PySem.W.Frag) (_ : World) : Sp := fun vs H Q _ => ∃ (c : V) (ns : List Int) (e : Int), vs = [c, .int e] ∧ Code K H c ns ∧ By ns ∧ ns.length ≤ 1000 ∧ FewG e ∧
  ∀ (H' : Hp) (S : List Int), Same H H' → PtS ns e S → Q (optV (nlS (goL ns) e S)) H'
def sp_law_turns (_ : PySem.W.Frag) (_ : World) : Sp := fun vs H Q _ => ∃ (d o : Addr) (e : Int) (ks : List Int) (f : Int → List Int), vs = [.ref d, .ref o] ∧ GrD H d ks f ∧ Ways ks f ∧ OvD H o ks f e ∧
  ∀ (p : Addr) (H' : Hp) (S : List Int), Same H H' → H p = none → S.Perm ks → S.Pairwise (· < ·) → DTq H' p (trnL f e S) → Q (.ref p) H'
def sp_law_barred (_ : PySem.W.Frag) (_ : World) : Sp := fun vs H Q _ => ∃ (d o : Addr) (e : Int) (ks : List Int) (f : Int → List Int), vs = [.ref d, .ref o] ∧ GrD H d ks f ∧ Ways ks f ∧ OvD H o ks f e ∧
  ∀ (H' : Hp) (S : List Int), Same H H' → S.Perm ks → S.Pairwise (· < ·) → Q (optV (nlS f e S)) H'
section
variable {K : PySem.W.Frag} {w : World} {vs : List V} {H : Hp} {Q : VK} {E : XK}
theorem len_turns_back (h : sp_turns_back K w vs H Q E) : vs.length = 2 := by
  obtain ⟨_, _, _, _, rfl, _⟩ := h
  rfl
theorem len_not_led (h : sp_not_led K w vs H Q E) : vs.length = 2 := by
  obtain ⟨_, _, _, rfl, _⟩ := h
  rfl
theorem len_law_turns (h : sp_law_turns K w vs H Q E) : vs.length = 2 := by
  obtain ⟨_, _, _, _, _, rfl, _⟩ := h
  rfl
theorem len_law_barred (h : sp_law_barred K w vs H Q E) : vs.length = 2 := by
  obtain ⟨_, _, _, _, _, rfl, _⟩ := h
  rfl
end
/-! ### plain: come back to the first one -/
structure WB (h : Int → List Int) (a : Int) (ss ws : List Int) : Prop where
  nd : ss.Nodup
  nf : a ∉ ss
  st : ∀ o ∈ h a, o ∈ ss ∨ o ∈ ws
  rs : ∀ k ∈ ss, ∃ o ∈ h a, Rch (fun x y => y ∈ h x) o k
  rw_ : ∀ k ∈ ws, ∃ o ∈ h a, Rch (fun x y => y ∈ h x) o k
  clo : ∀ k ∈ ss, ∀ j ∈ h k, j ∈ ss ∨ j ∈ ws
section
variable {h : Int → List Int} {a x : Int} {ss ws : List Int}
theorem WB.start : WB h a [] (h a) := ⟨List.nodup_nil, (fun z => nomatch z), fun o ho => .inr ho, (fun _ z => nomatch z), fun k hk => ⟨k, hk, .here⟩, (fun _ z => nomatch z)⟩
theorem WB.hit (w : WB h a ss (ws ++ [a])) : RingG h a := w.rw_ a (List.mem_append_right _ (List.mem_singleton.mpr rfl))
theorem WB.old (w : WB h a ss (ws ++ [x])) (hx : x ∈ ss) : WB h a ss ws := by
  have sp : ∀ j, j ∈ ss ∨ j ∈ ws ++ [x] → j ∈ ss ∨ j ∈ ws := fun j hj => by
    rcases hj with hj | hj
    · exact .inl hj
    · rcases List.mem_append.mp hj with hj | hj
      · exact .inr hj
      · rw [List.mem_singleton.mp hj]
        exact .inl hx
  exact ⟨w.nd, w.nf, fun o ho => sp _ (w.st o ho), w.rs, fun k hk => w.rw_ k (List.mem_append_left _ hk), fun k hk j hj => sp _ (w.clo k hk j hj)⟩
theorem WB.new (w : WB h a ss (ws ++ [x])) (hx : x ∉ ss) (hn : x ≠ a) : WB h a (ss ++ [x]) (ws ++ h x) := by
  obtain ⟨o, ho, r⟩ := w.rw_ x (List.mem_append_right _ (List.mem_singleton.mpr rfl))
  have sp : ∀ j, j ∈ ss ∨ j ∈ ws ++ [x] → j ∈ ss ++ [x] ∨ j ∈ ws ++ h x := fun j hj => by
    rcases hj with hj | hj
    · exact .inl (List.mem_append_left _ hj)
    · rcases List.mem_append.mp hj with hj | hj
      · exact .inr (List.mem_append_left _ hj)
      · exact .inl (List.mem_append_right _ hj)
  refine ⟨?_, fun z => ?_, fun o ho => sp _ (w.st o ho), fun k hk => ?_, fun k hk => ?_, fun k hk j hj => ?_⟩
  · refine List.nodup_append.mpr ⟨w.nd, by simp, fun u hu v hv e => ?_⟩
    rw [List.mem_singleton.mp hv] at e
    exact hx (e ▸ hu)
  · rcases List.mem_append.mp z with z | z
    · exact w.nf z
    · exact hn (List.mem_singleton.mp z).symm
  · rcases List.mem_append.mp hk with hk | hk
    · exact w.rs k hk
    · rw [List.mem_singleton.mp hk]
      exact ⟨o, ho, r⟩
  · rcases List.mem_append.mp hk with hk | hk
    · exact w.rw_ k (List.mem_append_left _ hk)
    · exact ⟨o, ho, r.on hk⟩
  · rcases List.mem_append.mp hk with hk | hk
    · exact sp _ (w.clo k hk j hj)
    · rw [List.mem_singleton.mp hk] at hj
      exact .inr (List.mem_append_right _ hj)
theorem WB.none (w : WB h a ss []) : ¬ RingG h a := by
  rintro ⟨o, ho, r⟩
  have all : ∀ k, Rch (fun x y => y ∈ h x) o k → k ∈ ss := fun k r => by
    induction r with
    | here => exact (w.st o ho).elim id fun z => nomatch z
    | on _ n ih => exact (w.clo _ ih _ n).elim id fun z => nomatch z
  exact w.nf (all a r)
end
theorem trnL_app (f : Int → List Int) (e : Int) (S T : List Int) : trnL f e (S ++ T) = trnL f e S ++ trnL f e T := List.flatMap_append
theorem trnL_one (f : Int → List Int) (e a : Int) : trnL f e [a] = ((f a).filter (isTurn f e a)).map fun o => (a, o) := by
  unfold trnL
  rw [List.flatMap_cons, List.flatMap_nil, List.append_nil]
theorem mem_trnL {f : Int → List Int} {e a o : Int} {S : List Int} : (a, o) ∈ trnL f e S ↔ a ∈ S ∧ o ∈ f a ∧ isTurn f e a o = true := by
  unfold trnL
  rw [List.mem_flatMap]
  constructor
  · rintro ⟨x, hx, h⟩
    obtain ⟨y, hy, e⟩ := List.mem_map.mp h
    cases e
    exact ⟨hx, (List.mem_filter.mp hy).1, (List.mem_filter.mp hy).2⟩
  · rintro ⟨h1, h2, h3⟩
    exact ⟨a, h1, List.mem_map.mpr ⟨o, List.mem_filter.mpr ⟨h2, h3⟩, rfl⟩⟩
theorem trnL_len {ks : List Int} {f : Int → List Int} (h : Ways ks f) (e : Int) : ∀ {S : List Int}, (∀ k ∈ S, k ∈ ks) → (trnL f e S).length ≤ 1300 * S.length
  | [], _ => Nat.zero_le _
  | a :: S, hs => by
    have ih := trnL_len h e (S := S) fun k hk => hs k (List.mem_cons_of_mem _ hk)
    have l1 : (trnL f e [a]).length ≤ 1300 := by
      rw [trnL_one, List.length_map]
      exact Nat.le_trans (List.length_filter_le _ _) (h.len a (hs a (List.mem_cons_self ..)))
    rw [show a :: S = [a] ++ S from rfl, trnL_app, List.length_append, List.length_append]
    show _ ≤ 1300 * (1 + S.length)
    omega
end Rl
namespace Rl
open PySem PySem.Spec PyProof.Rows L2
/-! ## rings of turns back -/
/-- from a back to k, not by way of h -/
def BkR (f : Int → List Int) (S : List Int) (h a k : Int) : Prop := h ≠ a ∧ Rch (fun x y => (y ∈ S ∧ x ∈ f y) ∧ h ≠ y) a k
def IsHead (f : Int → List Int) (e : Int) (S : List Int) (h : Int) : Prop := ∃ a, a ∈ S ∧ h ∈ f a ∧ isTurn f e a h = true
def InRing (f : Int → List Int) (e : Int) (S : List Int) (h k : Int) : Prop := k = h ∨ ∃ a, (a ∈ S ∧ h ∈ f a ∧ isTurn f e a h = true) ∧ BkR f S h a k
open Classical in
/-- heads, by order -/
noncomputable def rgH (f : Int → List Int) (e : Int) (S : List Int) : List Int := S.filter fun h => decide (IsHead f e S h)
open Classical in
/-- a head's ring, by order -/
noncomputable def rgL (f : Int → List Int) (e : Int) (S : List Int) (h : Int) : List Int := S.filter fun k => decide (InRing f e S h k)
noncomputable def ringE (f : Int → List Int) (e : Int) (S : List Int) (h : Int) : PyData := .tuple [.int h, .list ((rgL f e S h).map PyData.int)]
theorem bk_in {f : Int → List Int} {S : List Int} {h a k : Int} (r : BkR f S h a k) (ha : a ∈ S) : k ∈ S := by
  obtain ⟨_, r⟩ := r
  induction r with
  | here => exact ha
  | on _ n _ => exact n.1.1
theorem bk_ne {f : Int → List Int} {S : List Int} {h a k : Int} (r : BkR f S h a k) : h ≠ k := by
  obtain ⟨n, r⟩ := r
  cases r with
  | here => exact n
  | on _ n => exact n.2
theorem bk_congr {f : Int → List Int} {S T : List Int} {h a k : Int} (e : ∀ x, x ∈ S ↔ x ∈ T) : BkR f S h a k ↔ BkR f T h a k :=
  ⟨fun z => ⟨z.1, rch_mono (fun _ _ n => ⟨⟨(e _).mp n.1.1, n.1.2⟩, n.2⟩) z.2⟩, fun z => ⟨z.1, rch_mono (fun _ _ n => ⟨⟨(e _).mpr n.1.1, n.1.2⟩, n.2⟩) z.2⟩⟩
theorem ring_in {f : Int → List Int} {ks S : List Int} {e h k : Int} (hw : Ways ks f) (hS : S.Perm ks) (hh : IsHead f e S h) (r : InRing f e S h k) : k ∈ S := by
  rcases r with rfl | ⟨a, ⟨h1, _, _⟩, r⟩
  · obtain ⟨a, h1, h2, _⟩ := hh
    exact hS.mem_iff.mpr (hw.clo a (hS.mem_iff.mp h1) k h2)
  · exact bk_in r h1
theorem head_in {f : Int → List Int} {ks S : List Int} {e h : Int} (hw : Ways ks f) (hS : S.Perm ks) (hh : IsHead f e S h) : h ∈ S := by
  obtain ⟨a, h1, h2, _⟩ := hh
  exact hS.mem_iff.mpr (hw.clo a (hS.mem_iff.mp h1) h h2)
theorem mem_rgH {f : Int → List Int} {ks S : List Int} {e h : Int} (hw : Ways ks f) (hS : S.Perm ks) : h ∈ rgH f e S ↔ IsHead f e S h := by
  unfold rgH
  rw [List.mem_filter]
  simp only [decide_eq_true_eq]
  exact ⟨fun z => z.2, fun z => ⟨head_in hw hS z, z⟩⟩
theorem mem_rgL {f : Int → List Int} {ks S : List Int} {e h k : Int} (hw : Ways ks f) (hS : S.Perm ks) (hh : IsHead f e S h) : k ∈ rgL f e S h ↔ InRing f e S h k := by
  unfold rgL
  rw [List.mem_filter]
  simp only [decide_eq_true_eq]
  exact ⟨fun z => z.2, fun z => ⟨ring_in hw hS hh z, z⟩⟩
theorem rgH_lt {f : Int → List Int} {S : List Int} {e : Int} (h : S.Pairwise (· < ·)) : (rgH f e S).Pairwise (· < ·) := h.sublist List.filter_sublist
theorem rgL_lt {f : Int → List Int} {S : List Int} {e k : Int} (h : S.Pairwise (· < ·)) : (rgL f e S k).Pairwise (· < ·) := h.sublist List.filter_sublist
def sp_turned_away (_ : PySem.W.Frag) (_ : World) : Sp := fun vs H Q _ => ∃ (d : Addr) (ks : List Int) (f : Int → List Int), vs = [.ref d] ∧ GrD H d ks f ∧ Ways ks f ∧ (∀ k ∈ ks, (f k).Nodup) ∧
  ∀ (p : Addr) (H' : Hp) (g : Int → List Int), SmW d H H' → H p = none → p ≠ d → GrD H' p ks g → Ways ks g → (∀ x ∈ ks, ∀ y, y ∈ g x ↔ y ∈ ks ∧ x ∈ f y) → Q (.ref p) H'
/-- told rings: each a new pair with a new list -/
def RgI (H0 H : Hp) (p : Addr) (xs : List V) (f : Int → List Int) (e : Int) (S : List Int) : Prop := xs.length = (rgH f e S).length ∧ ∀ (j : Nat) (x : V), xs[j]? = some x → ∃ (q l : Addr) (k : Int), (rgH f e S)[j]? = some k ∧ x = .ref q ∧ H q = some (.tup [.int k, .ref l]) ∧ H0 q = none ∧ H l = some (.lst ((rgL f e S k).map V.int)) ∧ H0 l = none ∧ l ≠ p
def sp_rings (K : PySem.W.Frag) (_ : World) : Sp := fun vs H Q _ => ∃ (c : V) (ns : List Int) (e : Int), vs = [c, .int e] ∧ Code K H c ns ∧ By ns ∧ ns.length ≤ 1000 ∧ FewG e ∧
  ∀ (p : Addr) (H' : Hp) (xs : List V) (S : List Int), Same H H' → PtS ns e S → H p = none → H' p = some (.lst xs) → RgI H H' p xs (goL ns) e S → Q (.ref p) H'
def sp_law_ring (_ : PySem.W.Frag) (_ : World) : Sp := fun vs H Q _ => ∃ (d t : Addr) (h : Int) (ks ts : List Int) (f : Int → List Int), vs = [.ref d, .int h, .ref t] ∧ GrD H d ks f ∧ Ways ks f ∧ h ∈ ks ∧ H t = some (.lst (ts.map V.int)) ∧ ts.length ≤ 3000 ∧ (∀ x ∈ ts, x ∈ ks) ∧
  ∀ (l : Addr) (H' : Hp) (L : List Int), SmW d H H' → H l = none → l ≠ d → H' l = some (.lst (L.map V.int)) → L.Pairwise (· < ·) → (∀ k, k ∈ L ↔ k = h ∨ ∃ a, a ∈ ts ∧ BkR f ks h a k) → Q (.ref l) H'
def sp_law_rings (K : PySem.W.Frag) (_ : World) : Sp := fun vs H Q _ => ∃ (d o : Addr) (e : Int) (ks : List Int) (f : Int → List Int), vs = [.ref d, .ref o] ∧ GrD H d ks f ∧ Ways ks f ∧ OvD H o ks f e ∧ (∀ k ∈ ks, (f k).length ≤ 2) ∧
  ∀ (p : Addr) (H' : Hp) (S : List Int), SmW d H H' → S.Perm ks → S.Pairwise (· < ·) → p ≠ d → Dp K H' (.ref p) (.list ((rgH f e S).map (ringE f e S))) → Q (.ref p) H'
section
variable {K : PySem.W.Frag} {w : World} {vs : List V} {H : Hp} {Q : VK} {E : XK}
theorem len_turned_away (h : sp_turned_away K w vs H Q E) : vs.length = 1 := by
  obtain ⟨_, _, _, rfl, _⟩ := h
  rfl
theorem len_rings (h : sp_rings K w vs H Q E) : vs.length = 2 := by
  obtain ⟨_, _, _, rfl, _⟩ := h
  rfl
theorem len_law_ring (h : sp_law_ring K w vs H Q E) : vs.length = 3 := by
  obtain ⟨_, _, _, _, _, _, rfl, _⟩ := h
  rfl
theorem len_law_rings (h : sp_law_rings K w vs H Q E) : vs.length = 2 := by
  obtain ⟨_, _, _, _, _, rfl, _⟩ := h
  rfl
end
theorem goL_nodup (ns : List Int) (a : Int) : (goL ns a).Nodup := by
  unfold goL
  split
  · rename_i h
    exact (Exists.choose_spec h).1.imp fun z => Int.ne_of_lt z
  · exact List.nodup_nil
theorem goL_two (ns : List Int) (a : Int) : (goL ns a).length ≤ 2 := by
  unfold goL
  split
  · rename_i h
    have g := Exists.choose_spec h
    generalize h.choose = L at g
    have sub : ∀ k ∈ L, k = (behind ns a).getD 0 ∨ k = (tgt ns a).getD 0 := fun k hk => by
      rcases (g.2 k).mp hk with z | ⟨_, z⟩
      · exact .inl (by rw [z]; rfl)
      · exact .inr (by rw [z]; rfl)
    have lt := g.1
    match L, lt, sub with
    | [], _, _ => exact Nat.zero_le _
    | [_], _, _ => exact Nat.le_succ _
    | [_, _], _, _ => exact Nat.le_refl _
    | x :: y :: z :: r, lt, sub =>
      exfalso
      have h1 := List.pairwise_cons.mp lt
      have h2 := List.pairwise_cons.mp h1.2
      have a1 := h1.1 y (by simp)
      have a2 := h1.1 z (by simp)
      have a3 := h2.1 z (by simp)
      have b1 := sub x (by simp)
      have b2 := sub y (by simp)
      have b3 := sub z (by simp)
      omega
  · exact Nat.zero_le _
end Rl
namespace Rl
open PySem PySem.Spec PyProof.Rows L2
/-! ## {tuple: .. for ..}: dict comprehensions whose keys are tuples -/
/-- d[k] = v by a comprehension, k a tuple -/
theorem d_setT {X : Cx} {pins : List (Addr × Obj)} {σ : L2.St} {H : Hp} {s : Shared} {E : Value → Shared → Prop} {D b : Addr} {kvs : List (List L2.Key × V)} {k : List L2.Key} {v : V} {r : Value} {Q : Unit → Shared → Prop} (hu : X.A.units + 1 < cLine) (I : Inv X pins σ H s)
    (hb : H b = some (.tup (k.map kV))) (hD : H D = some (.dT kvs)) (hz : kvs.length < sizeLine) (rv : RelV v r) (h : ∀ s', Inv X pins σ (upd H D (.dT (putK kvs k v))) s' → Q () s') : wpAny (model X.prog X.w) X.A (dictSet D (.ref b) r) Q E s := by
  obtain ⟨z, hd, xs, rel, dd⟩ := dt_of I.hok hD
  have hzv : xs.length ≤ sizeLine := by rw [← Paired.length rel]; exact z
  have hl : (putK kvs k v).length ≤ sizeLine := by have := length_putK kvs k v; omega
  refine wpAny_dictSet_heap (hsz := hzv) (show X.A.units < cLine by omega) (key_of I.hok hb) dd fun h' dd' hs => h _ ?_
  obtain ⟨q, es, ep, hq, h2, h3, h4, _, h5⟩ := dd'
  refine d_write I (by rw [hD]; exact True.intro) hs ⟨q, hq⟩ ⟨hl, hd, _, (rel.put k hb rv).keeps fun c ys ec => ?_, q, es, ep, hq, h2, h3, h4, h5⟩
  rw [upd_ne (ne_of ec hD (fun z => nomatch z))]
  exact ec
section
variable {X : Cx}
def tDcT (wi : TI) (g : TG) (tt : TT) (tk tv : TE) (vs : List Nat) : TE := fun σ H Q => wi σ H fun J H1 => ∀ D, H1 D = none → ∃ W : Nat → Nat → Hp → Prop, (∃ m, W 0 m (upd H1 D (.dT []))) ∧ ∀ i m H, W i m H →
  (J.stop i H ∧ Q (.ref D) H) ∨ (J.go i H ∧ ∃ Nx : Hp → Prop, (∀ H', Nx H' → ∃ m', m' < m ∧ W (i + 1) m' H') ∧ ∀ x H', J.yld i H x H' → g x (wipe σ vs) H' fun σ2 H2 => wipe σ2 vs = wipe σ vs ∧ tt σ2 H2 fun b H3 =>
    if b = true then tk σ2 H3 fun y H4 => tv σ2 H4 fun z H5 => ∃ kvs k b, y = .ref b ∧ H5 b = some (.tup (k.map kV)) ∧ H5 D = some (.dT kvs) ∧ kvs.length < sizeLine ∧ Nx (upd H5 D (.dT (putK kvs k z))) else Nx H3)
theorem dct_core {pins : List (Addr × Obj)} {s : Shared} {σ : L2.St} {H : Hp} {Q : VK} {kx vx tg iter : Expr} {ifs : List Expr} {scope : Scope} {own : List (Str × Nat)} {pos pos' : Pos} {wi : TI} {g : TG} {tt : TT} {tk tv : TE} {use : Option (Value → Sem Unit)} {Qf : Value → Shared → Prop}
    (hu : X.A.units + 1 < cLine) (hc : X.calm = true) (hN : X.N.Nodup) (I : Inv X pins σ H s) (hi : PI X tg iter wi) (ok : BlkOk X.N X.env.scope scope own)
    (hg : ∀ (s : Shared) (H : Hp) (C : Addr) (cl : List (Str × Addr)) (fp : List Addr), PG (X.blk s H scope (compEnvC scope cl C X.env) fp) tg g) (ht : ∀ (s : Shared) (H : Hp) (C : Addr) (cl : List (Str × Addr)) (fp : List Addr), PTs (X.blk s H scope (compEnvC scope cl C X.env) fp) ifs tt)
    (hk : ∀ (s : Shared) (H : Hp) (C : Addr) (cl : List (Str × Addr)) (fp : List Addr), PE (X.blk s H scope (compEnvC scope cl C X.env) fp) kx tk)
    (he : ∀ (s : Shared) (H : Hp) (C : Addr) (cl : List (Str × Addr)) (fp : List Addr), PE (X.blk s H scope (compEnvC scope cl C X.env) fp) vx tv) (hs : ∀ x, foldedSetIterable iter X.env x = pure x)
    (h : tDcT wi g tt tk tv (own.map (·.2)) σ H Q)
    (hRR : ∀ D C s' m H', Inv X pins σ H' s' → Q (.ref D) H' → s'.heap.Ns C m → FpOk X pins H' C → compPost (model X.prog X.w) X.A X.xe use Qf (.ref D) C (.ok .next) s') :
    wpAny (model X.prog X.w) X.A (comprehension (.DictComp kx vx [⟨tg, iter, ifs, 0⟩] scope pos) scope X.env pos' newDict false (eval iter X.env) use) Qf X.xe s := by
  have hfree : ∀ y ∈ scope.names, y.2 = .free → ∃ c, X.env.cells.lookup y.1 = some c := fun y hy e => by
    rcases ok.free y hy e with k | k
    · exact I.ok.has _ (.inl k)
    · exact I.ok.has _ (.inr k)
  refine wpAny_comprehension_free (use := use) rfl hs (closure_ok hfree) ok.kind (fun y hy e => by rw [ok.uniq y hy, e])
    (thn (hi.run pins s σ H _ I h) fun xv s1 hx => thn hx fun itv s2 h2 => ?_)
  obtain ⟨it, fp, tn, J, H2, e, I2, T, st2, f2, q⟩ := h2
  subst e
  refine wpAny_newObj_type (newEnv_comp ?_)
  generalize hD : s2.heap.objs.size = D
  have hDn : H2 D = none := I2.hok.fresh (Nat.le_of_eq hD)
  obtain ⟨W, ⟨m0, w0⟩, turn⟩ := q D hDn
  -- the new list
  generalize hs3 : ({ s2 with heap := s2.heap.push { cls := .type "dict", data := .dict #[] } } : Shared) = s3
  have I3 : Inv X pins σ (upd H2 D (.dT [])) s3 := by
    rw [← hs3]
    refine I2.laid (t' := s2.toks) (fun b o e => Heap.get?_push_of_some _ e) (Nat.le_of_eq hD) ?_
    rw [← hD]
    exact dt_empty s2.heap I2.big
  have h3 : s3.heap = s2.heap.push { cls := .type "dict", data := .dict #[] } := by rw [← hs3]
  have sz : ∀ b ∈ fp, b < s2.heap.objs.size := fun b hb => by
    obtain ⟨o, e, _⟩ := T.obj _ _ st2 b hb
    exact Heap.lt_size e
  have f3 : ∀ b ∈ fp, FpOk X pins (upd H2 D (.dT [])) b ∧ b < s3.heap.objs.size := fun b hb => by
    have hlt := sz b hb
    refine ⟨⟨?_, (f2 b hb).2⟩, by rw [h3, Heap.size_push]; exact Nat.lt_succ_of_lt hlt⟩
    rw [upd_ne (by rw [← hD]; exact Nat.ne_of_lt hlt)]
    exact (f2 b hb).1
  have st3 : tn 0 s3.heap := T.keep _ _ _ st2 fun b _ o e => by rw [h3]; exact Heap.get?_push_of_some _ e
  have I4 := block_start I3 ok hN f3
  have pg := hg s3 (upd H2 D (.dT [])) s3.heap.objs.size (cellsFrom (s3.heap.objs.size + 1) scope.names (cloFrom X.env.cells scope.names [])) fp
  have pt := ht s3 (upd H2 D (.dT [])) s3.heap.objs.size (cellsFrom (s3.heap.objs.size + 1) scope.names (cloFrom X.env.cells scope.names [])) fp
  have pk := hk s3 (upd H2 D (.dT [])) s3.heap.objs.size (cellsFrom (s3.heap.objs.size + 1) scope.names (cloFrom X.env.cells scope.names [])) fp
  have pe := he s3 (upd H2 D (.dT [])) s3.heap.objs.size (cellsFrom (s3.heap.objs.size + 1) scope.names (cloFrom X.env.cells scope.names [])) fp
  show codeAny _ _ (.compStart (.DictComp kx vx [⟨tg, iter, ifs, 0⟩] scope pos) 0 (.ref it) (.ref D) (compEnvC scope (cellsFrom (s3.heap.objs.size + 1) scope.names (cloFrom X.env.cells scope.names [])) s3.heap.objs.size X.env)) (compPost (model X.prog X.w) X.A X.xe use Qf (.ref D) s3.heap.objs.size) { s3 with heap := pushCells (s3.heap.push { cls := .type "dict", data := .dict #[] }) scope.names }
  have nfp : ∀ b ∈ fp, (upd H2 D (.dT [])) b = none := fun b hb => (f3 b hb).1.1
  generalize hce : compEnvC scope (cellsFrom (s3.heap.objs.size + 1) scope.names (cloFrom X.env.cells scope.names [])) s3.heap.objs.size X.env = ce at I4 pg pt pk pe ⊢
  have cL : ce.locals = s3.heap.objs.size := by subst hce; rfl
  generalize hH3 : upd H2 D (.dT []) = H3 at I3 I4 pg pt pk pe w0 nfp f3
  generalize hs4 : ({ s3 with heap := pushCells (s3.heap.push { cls := .type "dict", data := .dict #[] }) scope.names } : Shared) = s4 at I4 ⊢
  have st4 : tn 0 s4.heap := T.keep _ _ _ st3 fun b _ o e => by rw [← hs4]; exact pushCells_keeps _ _ _ _ (Heap.get?_push_of_some _ e)
  have stat : ∀ {σ' : L2.St} {H' : Hp} {s' : Shared}, Inv (X.blk s3 H3 scope ce fp) [] σ' H' s' → (∀ b ∈ fp, H' b = none) → ∀ b ∈ fp, FpOk (X.blk s3 H3 scope ce fp) [] H' b := fun {σ' H' s'} I' hn b hb =>
    ⟨hn b hb, (I'.ok.exf b hb).1, I'.ok.exfs b hb, .inl hb, fun x c e => (I'.ok.exf b hb).2 x c e, fun p hp => absurd (show p ∈ ([] : List (Addr × Obj)) ++ [] from hp) (by simp)⟩
  have loop : codeAny (model X.prog X.w) X.A (.compLoop (.DictComp kx vx [⟨tg, iter, ifs, 0⟩] scope pos) 0 (.ref it) (.ref D) ce) (compPost (model X.prog X.w) X.A X.xe use Qf (.ref D) s3.heap.objs.size) s4 := by
    refine compLoop_anyD (fun n s' => ∃ i H', Inv (X.blk s3 H3 scope ce fp) [] (wipe σ (own.map (·.2))) H' s' ∧ tn i s'.heap ∧ (∀ b ∈ fp, H' b = none) ∧ W i n H') ?_ m0 ⟨0, H3, I4, st4, nfp, w0⟩
    rintro n s5 ⟨i, H5, I5, st5, n5, w5⟩
    rcases turn i n H5 w5 with ⟨stop, qq⟩ | ⟨go, Nx, hNx, step⟩
    · have td := T.done (X.blk s3 H3 scope ce fp) rfl rfl rfl hc i [] s5 _ H5 (fun _ _ => False) I5 (stat I5 n5) st5 stop
      refine thnF td fun r s6 ⟨hr, I6⟩ => ?_
      subst hr
      -- back in the def's context
      have I7 : Inv X pins σ H5 s6 := I3.call' (ch := fp) I6.os I6.base I6.hok I6.bare fun b hb => ⟨(f3 b hb).1.2.2.2.1, (f3 b hb).1.2.1, (f3 b hb).1.2.2.2.2.1, (f3 b hb).1.2.2.2.2.2⟩
      have nC : H5 s3.heap.objs.size = none := by
        have z : H5 ce.locals = none := I6.free
        rw [cL] at z
        exact z
      obtain ⟨m, hn, _⟩ := I6.loc
      have hn : s6.heap.Ns ce.locals m := hn
      rw [cL] at hn
      exact hRR D s3.heap.objs.size s6 m H5 I7 qq hn (I3.fpOk (Nat.le_refl _) nC)
    · have ti := T.item (X.blk s3 H3 scope ce fp) rfl rfl rfl hc i [] s5 _ H5 (fun _ _ => False) I5 (stat I5 n5) st5 go
      refine thnF ti fun r s6 ⟨u, hr, h6⟩ => ?_
      subst hr
      refine thnF h6 fun _ s7 ⟨x, H7, I7, r7, y7, st7, n7⟩ => ?_
      have I7' := I7.pinned (stat I7 n7) (T.obj _ _ st7)
      refine thnF (pg.run _ s7 _ H7 x u _ I7' r7 (step x H7 y7)) fun _ s8 ⟨σ8, H8, I8, hw8, q8⟩ => ?_
      refine thnF (pt.run _ s8 σ8 H8 _ I8 q8) fun b s9 ⟨H9, I9, q9⟩ => ?_
      -- the turn's end
      have fin : ∀ {s' : Shared} {H' : Hp}, Inv (X.blk s3 H3 scope ce fp) ([] ++ pinsAt fp s7.heap) σ8 H' s' → Nx H' → ∃ m, m < n ∧ ∃ i H', Inv (X.blk s3 H3 scope ce fp) [] (wipe σ (own.map (·.2))) H' s' ∧ tn i s'.heap ∧ (∀ b ∈ fp, H' b = none) ∧ W i m H' := fun {s' H'} I' nx => by
        obtain ⟨m', hm, w'⟩ := hNx H' nx
        have pin' : ∀ b ∈ fp, ∀ o, s7.heap.get? b = some o → s'.heap.get? b = some o ∧ H' b = none := fun b hb o e =>
          let z := I'.pin (b, o) (List.mem_append_right _ (List.mem_append_right _ (mem_pinsAt hb e)))
          ⟨z.1, z.2.1⟩
        have hl : (wipe σ (own.map (·.2))).length = σ8.length := by rw [← hw8, wipe_length]
        refine ⟨m', hm, i + 1, H', (I'.unpinned (pins := [])).weak hl (fun j v e => ?_), T.keep _ _ _ st7 fun b hb o e => (pin' b hb o e).1, fun b hb => ?_, w'⟩
        · rw [← hw8] at e
          exact (wipe_some e).1
        · obtain ⟨o, e, _⟩ := T.obj _ _ st7 b hb
          exact (pin' b hb o e).2
      cases b with
      | false =>
        simp only [Bool.false_eq_true, if_false] at q9 ⊢
        exact fin I9 q9
      | true =>
        simp only [if_true] at q9 ⊢
        refine thnF (pk.run _ s9 σ8 H9 _ I9 q9) fun z s10 ⟨yk, H10, I10, r10, q10⟩ => ?_
        refine thnF (pe.run _ s10 σ8 H10 _ I10 q10) fun z2 s11 ⟨yv, H11, I11, r11, kvs, k, b, ek, hb11, hD11, hz11, nx⟩ => ?_
        subst ek
        cases (show z = Value.ref b from r10)
        exact d_setT (X := X.blk s3 H3 scope ce fp) hu I11 hb11 hD11 hz11 r11 fun s12 I12 => fin I12 nx
  exact codeAny_compStart_dict loop (T.self X.A 0 _ _ _ st4 loop)
/-- as a value -/
theorem pe_dcT {kx vx tg iter : Expr} {ifs : List Expr} {scope : Scope} {own : List (Str × Nat)} {pos : Pos} {wi : TI} {g : TG} {tt : TT} {tk tv : TE} (hu : X.A.units + 1 < cLine) (hc : X.calm = true) (hN : X.N.Nodup) (hi : PI X tg iter wi) (ok : BlkOk X.N X.env.scope scope own)
    (hg : ∀ (s : Shared) (H : Hp) (C : Addr) (cl : List (Str × Addr)) (fp : List Addr), PG (X.blk s H scope (compEnvC scope cl C X.env) fp) tg g) (ht : ∀ (s : Shared) (H : Hp) (C : Addr) (cl : List (Str × Addr)) (fp : List Addr), PTs (X.blk s H scope (compEnvC scope cl C X.env) fp) ifs tt)
    (hk : ∀ (s : Shared) (H : Hp) (C : Addr) (cl : List (Str × Addr)) (fp : List Addr), PE (X.blk s H scope (compEnvC scope cl C X.env) fp) kx tk)
    (he : ∀ (s : Shared) (H : Hp) (C : Addr) (cl : List (Str × Addr)) (fp : List Addr), PE (X.blk s H scope (compEnvC scope cl C X.env) fp) vx tv) (hs : ∀ x, foldedSetIterable iter X.env x = pure x := by intro _; rfl) :
    PE X (.DictComp kx vx [⟨tg, iter, ifs, 0⟩] scope pos) (tDcT wi g tt tk tv (own.map (·.2))) := by
  refine ⟨fun pins s σ H Q I h => ?_⟩
  rw [arm_eval_DictComp]
  refine dct_core hu hc hN I hi ok hg ht hk he hs h fun D C s' m H' I' q hn f => ⟨m, hn, fun h'' sb => ?_⟩
  obtain ⟨f0, f1, f2, f3, f4, f5⟩ := f
  exact ⟨.ref D, H', I'.turned (t' := s'.toks) (fun b o hb e => (sb.2 b hb).trans e) f0 f1 f3 f4 f5, rfl, q⟩
end
namespace R
/-- the loop of a dict comprehension with tuples as keys -/
def DctLoop (J : It) (g : TG) (tt : TT) (tk tv : TE) (vs : List Nat) (σ : L2.St) (D : Addr) (H : Hp) (Q : VK) : Prop := ∃ W : Nat → Nat → Hp → Prop, (∃ m, W 0 m (upd H D (.dT []))) ∧ ∀ i m H, W i m H →
  (J.stop i H ∧ Q (.ref D) H) ∨ (J.go i H ∧ ∃ Nx : Hp → Prop, (∀ H', Nx H' → ∃ m', m' < m ∧ W (i + 1) m' H') ∧ ∀ x H', J.yld i H x H' → g x (wipe σ vs) H' fun σ2 H2 => wipe σ2 vs = wipe σ vs ∧ tt σ2 H2 fun b H3 =>
    if b = true then tk σ2 H3 fun y H4 => tv σ2 H4 fun z H5 => ∃ kvs k b, y = .ref b ∧ H5 b = some (.tup (k.map kV)) ∧ H5 D = some (.dT kvs) ∧ kvs.length < sizeLine ∧ Nx (upd H5 D (.dT (putK kvs k z))) else Nx H3)
theorem dct {σ : L2.St} {H : Hp} {Q : VK} {wi : TI} {g : TG} {tt : TT} {tk tv : TE} {vs : List Nat} (q : wi σ H fun J H1 => ∀ D, H1 D = none → DctLoop J g tt tk tv vs σ D H1 Q) : tDcT wi g tt tk tv vs σ H Q := q
theorem dctI {σ : L2.St} {H : Hp} {Q : VK} {J : It} {n : Nat} {G : Hp → Prop} {Y : Nat → Hp → V → Hp → Prop} {g : TG} {tt : TT} {tk tv : TE} {vs : List Nat} {D : Addr} (w : Walk J n G Y) (Pv : Nat → Hp → Prop) (h0 : Pv 0 (upd H D (.dT []))) (hG : ∀ i H, i ≤ n → Pv i H → G H)
    (each : ∀ i x H H', i < n → Pv i H → Y i H x H' → g x (wipe σ vs) H' fun σ2 H2 => wipe σ2 vs = wipe σ vs ∧ tt σ2 H2 fun b H3 =>
      if b = true then tk σ2 H3 fun y H4 => tv σ2 H4 fun z H5 => ∃ kvs k b, y = .ref b ∧ H5 b = some (.tup (k.map kV)) ∧ H5 D = some (.dT kvs) ∧ kvs.length < sizeLine ∧ Pv (i + 1) (upd H5 D (.dT (putK kvs k z))) else Pv (i + 1) H3) (hd : ∀ H, Pv n H → Q (.ref D) H) : DctLoop J g tt tk tv vs σ D H Q := by
  refine ⟨fun i m H' => m = n - i ∧ i ≤ n ∧ Pv i H', ⟨n, by omega, Nat.zero_le _, h0⟩, ?_⟩
  rintro i m H' ⟨rfl, hi, p⟩
  by_cases h : i = n
  · subst h
    exact .inl ⟨w.stops H' (hG _ _ hi p), hd _ p⟩
  · have lt : i < n := by omega
    refine .inr ⟨w.goes i H' lt (hG _ _ hi p), fun H2 => Pv (i + 1) H2, fun H2 p2 => ⟨n - (i + 1), by omega, rfl, lt, p2⟩, fun x H2 y => ?_⟩
    exact each i x H' H2 lt p (w.yields i H' x H2 lt (hG _ _ hi p) y)
end R
end Rl
namespace Rl
open PySem PySem.Spec PyProof.Rows L2
namespace R
section
variable {σ : L2.St} {H : Hp} {Q : VK} {wi wi1 : TI} {g g1 : TG} {tt tt1 : TT} {te : TE} {vs vs1 : List Nat}
/-- the inner loop of a comprehension of two sources -/
def Lc2In (J1 : It) (g1 : TG) (tt1 : TT) (te : TE) (vs1 : List Nat) (σ2 : L2.St) (D : Addr) (Nx : Hp → Prop) (H4 : Hp) : Prop := ∃ W1 : Nat → Nat → Hp → Prop, (∃ m, W1 0 m H4) ∧ ∀ j k H, W1 j k H →
  (J1.stop j H ∧ Nx H) ∨ (J1.go j H ∧ ∃ Nx1 : Hp → Prop, (∀ H', Nx1 H' → ∃ k', k' < k ∧ W1 (j + 1) k' H') ∧ ∀ x H', J1.yld j H x H' → g1 x (wipe σ2 vs1) H' fun σ3 H5 => wipe σ3 vs1 = wipe σ2 vs1 ∧ tt1 σ3 H5 fun b H6 =>
    if b = true then te σ3 H6 fun y H7 => ∃ acc, H7 D = some (.lst acc) ∧ acc.length < sizeLine ∧ Nx1 (upd H7 D (.lst (acc ++ [y]))) else Nx1 H6)
/-- the outer loop -/
def Lc2Loop (J : It) (g : TG) (tt : TT) (wi1 : TI) (g1 : TG) (tt1 : TT) (te : TE) (vs vs1 : List Nat) (σ : L2.St) (D : Addr) (H : Hp) (Q : VK) : Prop := ∃ W : Nat → Nat → Hp → Prop, (∃ m, W 0 m (upd H D (.lst []))) ∧ ∀ i m H, W i m H →
  (J.stop i H ∧ Q (.ref D) H) ∨ (J.go i H ∧ ∃ Nx : Hp → Prop, (∀ H', Nx H' → ∃ m', m' < m ∧ W (i + 1) m' H') ∧ ∀ x H', J.yld i H x H' → g x (wipe σ vs) H' fun σ2 H2 => wipe σ2 vs = wipe σ vs ∧ tt σ2 H2 fun b H3 =>
    if b = true then wi1 σ2 H3 fun J1 H4 => Lc2In J1 g1 tt1 te vs1 σ2 D Nx H4 else Nx H3)
theorem lc2 (q : wi σ H fun J H1 => ∀ D, H1 D = none → Lc2Loop J g tt wi1 g1 tt1 te vs vs1 σ D H1 Q) : tLc2 wi g tt wi1 g1 tt1 te vs vs1 σ H Q := q
theorem lc2I {J : It} {n : Nat} {G : Hp → Prop} {Y : Nat → Hp → V → Hp → Prop} {D : Addr} (w : Walk J n G Y) (Pv : Nat → Hp → Prop) (h0 : Pv 0 (upd H D (.lst []))) (hG : ∀ i H, i ≤ n → Pv i H → G H)
    (each : ∀ i x H H', i < n → Pv i H → Y i H x H' → g x (wipe σ vs) H' fun σ2 H2 => wipe σ2 vs = wipe σ vs ∧ tt σ2 H2 fun b H3 =>
      if b = true then wi1 σ2 H3 fun J1 H4 => Lc2In J1 g1 tt1 te vs1 σ2 D (Pv (i + 1)) H4 else Pv (i + 1) H3) (hd : ∀ H, Pv n H → Q (.ref D) H) : Lc2Loop J g tt wi1 g1 tt1 te vs vs1 σ D H Q := by
  refine ⟨fun i m H' => m = n - i ∧ i ≤ n ∧ Pv i H', ⟨n, by omega, Nat.zero_le _, h0⟩, ?_⟩
  rintro i m H' ⟨rfl, hi, p⟩
  by_cases h : i = n
  · subst h
    exact .inl ⟨w.stops H' (hG _ _ hi p), hd _ p⟩
  · have lt : i < n := by omega
    refine .inr ⟨w.goes i H' lt (hG _ _ hi p), fun H2 => Pv (i + 1) H2, fun H2 p2 => ⟨n - (i + 1), by omega, rfl, lt, p2⟩, fun x H2 y => ?_⟩
    exact each i x H' H2 lt p (w.yields i H' x H2 lt (hG _ _ hi p) y)
theorem lc2In {J : It} {n : Nat} {G : Hp → Prop} {Y : Nat → Hp → V → Hp → Prop} {D : Addr} {Nx : Hp → Prop} (w : Walk J n G Y) (Pv : Nat → Hp → Prop) (h0 : Pv 0 H) (hG : ∀ i H, i ≤ n → Pv i H → G H)
    (each : ∀ i x H H', i < n → Pv i H → Y i H x H' → g1 x (wipe σ vs1) H' fun σ2 H2 => wipe σ2 vs1 = wipe σ vs1 ∧ tt1 σ2 H2 fun b H3 =>
      if b = true then te σ2 H3 fun y H4 => ∃ got, H4 D = some (.lst got) ∧ got.length < sizeLine ∧ Pv (i + 1) (upd H4 D (.lst (got ++ [y]))) else Pv (i + 1) H3) (hd : ∀ H, Pv n H → Nx H) : Lc2In J g1 tt1 te vs1 σ D Nx H := by
  refine ⟨fun i m H' => m = n - i ∧ i ≤ n ∧ Pv i H', ⟨n, by omega, Nat.zero_le _, h0⟩, ?_⟩
  rintro i m H' ⟨rfl, hi, p⟩
  by_cases h : i = n
  · subst h
    exact .inl ⟨w.stops H' (hG _ _ hi p), hd _ p⟩
  · have lt : i < n := by omega
    refine .inr ⟨w.goes i H' lt (hG _ _ hi p), fun H2 => Pv (i + 1) H2, fun H2 p2 => ⟨n - (i + 1), by omega, rfl, lt, p2⟩, fun x H2 y => ?_⟩
    exact each i x H' H2 lt p (w.yields i H' x H2 lt (hG _ _ hi p) y)
end
end R
end Rl
namespace Rl
open PySem PySem.Spec PyProof.Rows L2
/-! ## walks over a dict with tuples as keys, frozen where it is walked first; over the items of a frozen dict -/
def tFrzT (td : TE) : TE := fun σ H Q => td σ H fun x H1 => ∃ (d : Addr) (kvs : List (List Key × V)), x = .ref d ∧ Rd H1 d (.dT kvs) ∧ ∀ (o : Obj) (H2 : Hp), H2 d = some (.frz o (.dT kvs)) → (∀ b, b ≠ d → H2 b = H1 b) → (∀ ob, H1 d = some (.frz ob (.dT kvs)) → H2 = H1) → Q x H2
theorem pe_frzT {X : Cx} {e : Expr} {td : TE} (h : PE X e td) : PE X e (tFrzT td) := by
  refine ⟨fun pins s σ H Q I hw => ?_⟩
  refine thn (h.run pins s σ H _ I hw) fun u s1 ⟨x, H1, I1, rx, d, kvs, ex, hd, q⟩ => ?_
  rcases hd with hd | ⟨ob, hd⟩
  · obtain ⟨od, I2⟩ := I1.lock hd True.intro
    exact ⟨x, _, I2, rx, q od _ upd_same (fun b hb => upd_ne hb) fun ob z => by rw [hd] at z; cases z⟩
  · exact ⟨x, H1, I1, rx, q ob H1 hd (fun _ _ => rfl) fun _ _ => rfl⟩
namespace R
section
variable {K : PySem.W.Frag} {σ : L2.St} {H : Hp} {Q : VK} {a : TE}
def KeysT (R : It → Hp → Prop) (x : V) (H : Hp) : Prop := ∃ (d : Addr) (kvs : List (List Key × V)), x = .ref d ∧ Rd H d (.dT kvs) ∧ ∀ (o : Obj) (H2 : Hp), H2 d = some (.frz o (.dT kvs)) → (∀ b, b ≠ d → H2 b = H b) → (∀ ob, H d = some (.frz ob (.dT kvs)) → H2 = H) →
  ∃ d' o', x = .ref d' ∧ ((∃ kvs, H2 d' = some (.frz o' (.dK kvs)) ∧ R (Itk d' o' kvs) H2) ∨ ∃ kvs, H2 d' = some (.frz o' (.dT kvs)) ∧ R (Itkt d' o' kvs) H2)
theorem keysT {R : It → Hp → Prop} (q : a σ H (KeysT R)) : iKeys (tFrzT a) σ H R := q
theorem keysTAt {R : It → Hp → Prop} {d : Addr} {kvs : List (List Key × V)} (h : Rd H d (.dT kvs)) (q : ∀ (o : Obj) (H2 : Hp), H2 d = some (.frz o (.dT kvs)) → (∀ b, b ≠ d → H2 b = H b) → (∀ ob, H d = some (.frz ob (.dT kvs)) → H2 = H) → R (Itkt d o kvs) H2) : KeysT R (.ref d) H :=
  ⟨d, kvs, rfl, h, fun o H2 e s z => ⟨d, o, rfl, .inr ⟨kvs, e, q o H2 e s z⟩⟩⟩
def ItemsR (R : It → Hp → Prop) (x : V) (H : Hp) : Prop := ∃ (d : Addr) (kvs : List (Key × V)), x = .ref d ∧ Rd H d (.dK kvs) ∧ ∀ (o : Obj) (H2 : Hp), H2 d = some (.frz o (.dK kvs)) → (∀ b, b ≠ d → H2 b = H b) →
  ∃ d' o' kvs', x = .ref d' ∧ H2 d' = some (.frz o' (.dK kvs')) ∧ R (Iti d' o' kvs') H2
theorem itemsF {R : It → Hp → Prop} (q : a σ H (ItemsR R)) : iItems (tFrz a) σ H R := q
theorem itemsAt {R : It → Hp → Prop} {d : Addr} {kvs : List (Key × V)} (h : Rd H d (.dK kvs)) (q : ∀ (o : Obj) (H2 : Hp), H2 d = some (.frz o (.dK kvs)) → (∀ b, b ≠ d → H2 b = H b) → R (Iti d o kvs) H2) : ItemsR R (.ref d) H :=
  ⟨d, kvs, rfl, h, fun o H2 e s => ⟨d, o, kvs, rfl, e, q o H2 e s⟩⟩
end
end R
end Rl
namespace Rl
open PySem PySem.Spec PyProof.Rows L2
/-! ## rings: plain -/
section
variable {N M : Int → Int → Prop} {a b c : Int}
theorem rch_trans (h : Rch N a b) (g : Rch N b c) : Rch N a c := by
  induction g with
  | here => exact h
  | on _ n ih => exact ih.on n
theorem rch_cons (n : N a b) (g : Rch N b c) : Rch N a c := rch_trans (Rch.here.on n) g
theorem rch_first (h : Rch N a c) : c = a ∨ ∃ b, N a b ∧ Rch N b c := by
  induction h with
  | here => exact .inl rfl
  | on r n ih =>
    rcases ih with rfl | ⟨b, h1, h2⟩
    · exact .inr ⟨_, n, .here⟩
    · exact .inr ⟨b, h1, h2.on n⟩
end
/-- within R, from i on -/
def Wi (f : Int → List Int) (R : List Int) (i k : Int) : Prop := i ∈ R ∧ Rch (fun x y => y ∈ f x ∧ y ∈ R) i k
theorem wi_in {f : Int → List Int} {R : List Int} {i k : Int} (h : Wi f R i k) : k ∈ R := by
  obtain ⟨h0, h⟩ := h
  cases h with
  | here => exact h0
  | on _ n => exact n.2
/-- what `_law_within` has at a turn -/
structure WX (f : Int → List Int) (R is ks ws : List Int) : Prop where
  nd : ks.Nodup
  sub : ∀ k ∈ ks, k ∈ R
  st : ∀ i ∈ is, i ∈ R → i ∈ ks ∨ i ∈ ws
  rk : ∀ k ∈ ks, ∃ i ∈ is, Wi f R i k
  rw_ : ∀ k ∈ ws, k ∈ R → ∃ i ∈ is, Wi f R i k
  clo : ∀ k ∈ ks, ∀ j ∈ f k, j ∈ R → j ∈ ks ∨ j ∈ ws
section
variable {f : Int → List Int} {R is ks ws : List Int} {x : Int}
theorem WX.start : WX f R is [] is := ⟨List.nodup_nil, (fun _ h => nomatch h), fun i hi _ => .inr hi, (fun _ h => nomatch h), fun k hk hR => ⟨k, hk, hR, .here⟩, (fun _ h => nomatch h)⟩
theorem WX.old (w : WX f R is ks (ws ++ [x])) (hx : ¬ (x ∈ R ∧ x ∉ ks)) : WX f R is ks ws := by
  have sp : ∀ j, j ∈ R → j ∈ ks ∨ j ∈ ws ++ [x] → j ∈ ks ∨ j ∈ ws := fun j hR hj => by
    rcases hj with hj | hj
    · exact .inl hj
    · rcases List.mem_append.mp hj with hj | hj
      · exact .inr hj
      · refine .inl ?_
        obtain rfl := List.mem_singleton.mp hj
        by_cases z : j ∈ ks
        · exact z
        · exact absurd ⟨hR, z⟩ hx
  exact ⟨w.nd, w.sub, fun i hi hR => sp i hR (w.st i hi hR), w.rk, fun k hk => w.rw_ k (List.mem_append_left _ hk), fun k hk j hj hR => sp j hR (w.clo k hk j hj hR)⟩
theorem WX.new (w : WX f R is ks (ws ++ [x])) (hR : x ∈ R) (hx : x ∉ ks) : WX f R is (ks ++ [x]) (ws ++ f x) := by
  obtain ⟨i, hi, r⟩ := w.rw_ x (List.mem_append_right _ (List.mem_singleton.mpr rfl)) hR
  have sp : ∀ j, j ∈ ks ∨ j ∈ ws ++ [x] → j ∈ ks ++ [x] ∨ j ∈ ws ++ f x := fun j hj => by
    rcases hj with hj | hj
    · exact .inl (List.mem_append_left _ hj)
    · rcases List.mem_append.mp hj with hj | hj
      · exact .inr (List.mem_append_left _ hj)
      · exact .inl (List.mem_append_right _ hj)
  refine ⟨?_, fun k hk => ?_, fun i hi hR => sp i (w.st i hi hR), fun k hk => ?_, fun k hk hkR => ?_, fun k hk j hj hjR => ?_⟩
  · refine List.nodup_append.mpr ⟨w.nd, by simp, fun u hu v hv e => ?_⟩
    rw [List.mem_singleton.mp hv] at e
    exact hx (e ▸ hu)
  · rcases List.mem_append.mp hk with hk | hk
    · exact w.sub k hk
    · rw [List.mem_singleton.mp hk]
      exact hR
  · rcases List.mem_append.mp hk with hk | hk
    · exact w.rk k hk
    · rw [List.mem_singleton.mp hk]
      exact ⟨i, hi, r⟩
  · rcases List.mem_append.mp hk with hk | hk
    · exact w.rw_ k (List.mem_append_left _ hk) hkR
    · exact ⟨i, hi, r.1, r.2.on ⟨hk, hkR⟩⟩
  · rcases List.mem_append.mp hk with hk | hk
    · exact sp j (w.clo k hk j hj hjR)
    · rw [List.mem_singleton.mp hk] at hj
      exact .inr (List.mem_append_right _ hj)
theorem WX.all (w : WX f R is ks []) (k : Int) : k ∈ ks ↔ ∃ i ∈ is, Wi f R i k := by
  refine ⟨w.rk k, fun ⟨i, hi, hR, r⟩ => ?_⟩
  have key : ∀ {k}, Rch (fun x y => y ∈ f x ∧ y ∈ R) i k → k ∈ ks := fun {k} r => by
    induction r with
    | here => exact (w.st i hi hR).elim id fun z => nomatch z
    | on _ n ih => exact (w.clo _ ih _ n.1 n.2).elim id fun z => nomatch z
  exact key r
end
section
variable {f : Int → List Int} {e h k y x : Int} {S : List Int}
/-- all of a part -/
abbrev AllS (f : Int → List Int) (e : Int) (S : List Int) : Prop := ∀ k, k ∈ S ↔ Rch (Stp f) e k
theorem dom_anti (a : Int) (b : Int) (hr : Rch (Stp f) e a) (ne : a ≠ b) (h1 : ¬ CT f (some a) e b) (h2 : ¬ CT f (some b) e a) : False := by
  have key : ∀ {k}, Rch (Stp f) e k → CT f (some a) e k ∧ CT f (some b) e k := fun {k} r => by
    induction r with
    | here =>
      refine ⟨⟨fun z => ?_, .here⟩, ⟨fun z => ?_, .here⟩⟩
      · obtain rfl := Option.some.inj z
        exact h2 ⟨fun w => ne (Option.some.inj w).symm, .here⟩
      · obtain rfl := Option.some.inj z
        exact h1 ⟨fun w => ne (Option.some.inj w), .here⟩
    | on r n ih =>
      rename_i y k
      refine ⟨ct_on ih.1 n fun z => ?_, ct_on ih.2 n fun z => ?_⟩
      · obtain rfl := Option.some.inj z
        exact h2 (ct_on ih.2 n fun w => ne (Option.some.inj w).symm)
      · obtain rfl := Option.some.inj z
        exact h1 (ct_on ih.1 n fun w => ne (Option.some.inj w))
  exact dom_self (key hr).1
theorem ring_dom (r : InRing f e S h k) : ¬ CT f (some h) e k := by
  rcases r with rfl | ⟨a, ⟨_, _, t⟩, nb, r⟩
  · exact dom_self
  · have ha := isTurn_iff.mp t
    have key : ∀ {k}, Rch (fun x y => (y ∈ S ∧ x ∈ f y) ∧ h ≠ y) a k → h ≠ k ∧ ¬ CT f (some h) e k := fun {k} r => by
      induction r with
      | here => exact ⟨nb, ha⟩
      | on _ n ih => exact ⟨n.2, dom_step n.1.2 ih.2 ih.1⟩
    exact (key r).2
theorem ring_tail (hh : IsHead f e S h) : ∃ a, InRing f e S h a ∧ h ∈ f a := by
  obtain ⟨a, h1, h2, h3⟩ := hh
  by_cases z : h = a
  · exact ⟨a, .inl z.symm, h2⟩
  · exact ⟨a, .inr ⟨a, ⟨h1, h2, h3⟩, z, .here⟩, h2⟩
theorem from_head (r : Rch (Stp f) e k) : CT f (some h) e k ∨ Rch (fun x y => y ∈ f x ∧ y ≠ h) h k := by
  induction r with
  | here =>
    by_cases z : h = e
    · exact .inr (z ▸ .here)
    · exact .inl ⟨fun w => z (Option.some.inj w), .here⟩
  | on r n ih =>
    rename_i y k
    by_cases z : k = h
    · exact .inr (z ▸ .here)
    · rcases ih with ih | ih
      · exact .inl (ct_on ih n fun w => z (Option.some.inj w).symm)
      · exact .inr (ih.on ⟨n, z⟩)
/-- a ring's steps -/
abbrev RgN (f : Int → List Int) (R : Int → Prop) : Int → Int → Prop := fun x y => y ∈ f x ∧ R y
theorem ring_from (hA : AllS f e S) (hh : h ∈ S) (r : InRing f e S h k) (hk : k ∈ S) : Rch (RgN f (InRing f e S h)) h k := by
  rcases from_head (h := h) ((hA k).mp hk) with z | z
  · exact absurd z (ring_dom r)
  · clear hk
    induction z with
    | here => exact .here
    | on p n ih =>
      rename_i x k
      have hx : x ∈ S := (hA x).mpr (rch_trans ((hA h).mp hh) (rch_mono (fun _ _ n => n.1) p))
      have rx : InRing f e S h x := by
        rcases r with rfl | ⟨a, t, nb, r⟩
        · exact absurd rfl n.2
        · by_cases y : x = h
          · exact .inl y
          · exact .inr ⟨a, t, nb, r.on ⟨⟨hx, n.1⟩, fun z => y z.symm⟩⟩
      exact (ih rx).on ⟨n.1, r⟩
theorem ring_to (hA : AllS f e S) (hH : IsHead f e S h) (hh : h ∈ S) (r : InRing f e S h k) : ∃ i ∈ f k, InRing f e S h i ∧ Rch (RgN f (InRing f e S h)) i h := by
  have main : ∀ {a k}, a ∈ S → h ∈ f a → isTurn f e a h = true → BkR f S h a k → ∃ i ∈ f k, InRing f e S h i ∧ Rch (RgN f (InRing f e S h)) i h := fun {a k} h1 h2 h3 ⟨nb, r⟩ => by
    have key : ∀ {k}, Rch (fun x y => (y ∈ S ∧ x ∈ f y) ∧ h ≠ y) a k → ∃ i ∈ f k, InRing f e S h i ∧ Rch (RgN f (InRing f e S h)) i h := fun {k} r => by
      induction r with
      | here => exact ⟨h, h2, .inl rfl, .here⟩
      | on p n ih =>
        rename_i x y
        have rx : InRing f e S h x := .inr ⟨a, ⟨h1, h2, h3⟩, nb, p⟩
        obtain ⟨i, g1, g2, g3⟩ := ih
        exact ⟨x, n.1.2, rx, rch_cons ⟨g1, g2⟩ g3⟩
    exact key r
  rcases r with rfl | ⟨a, ⟨h1, h2, h3⟩, r⟩
  · obtain ⟨a, h1, h2, h3⟩ := hH
    by_cases z : k = a
    · subst z
      exact ⟨k, h2, .inl rfl, .here⟩
    · have ra : InRing f e S k a := .inr ⟨a, ⟨h1, h2, h3⟩, z, .here⟩
      rcases rch_first (ring_from hA hh ra h1) with y | ⟨i, n, g⟩
      · exact absurd y.symm z
      · exact ⟨i, n.1, n.2, g.on ⟨h2, .inl rfl⟩⟩
  · exact main h1 h2 h3 r
/-- the rows of two rings -/
theorem ring_nest {h1 h2 : Int} (hA : AllS f e S) (hH1 : IsHead f e S h1) (hH2 : IsHead f e S h2) (m1 : h1 ∈ S) (m2 : h2 ∈ S) (ne : h1 ≠ h2) (d : ¬ CT f (some h1) e h2) (hx : x ∈ S) (x1 : InRing f e S h1 x) (x2 : InRing f e S h2 x) (hall : ∀ {k}, InRing f e S h2 k → k ∈ S) (y2 : InRing f e S h2 y) : InRing f e S h1 y := by
  have off : ¬ InRing f e S h2 h1 := fun z => dom_anti h1 h2 ((hA h1).mp m1) ne d (ring_dom z)
  have nof : ∀ {k}, InRing f e S h2 k → h1 ≠ k := fun z w => off (w ▸ z)
  obtain ⟨i, g1, g2, g3⟩ := ring_to hA hH2 m2 y2
  have path : Rch (RgN f (InRing f e S h2)) y x := rch_cons ⟨g1, g2⟩ (rch_trans g3 (ring_from hA m2 x2 hx))
  rcases x1 with rfl | ⟨a, t, bx⟩
  · exact absurd rfl (nof x2)
  · have inR : ∀ {u}, Rch (RgN f (InRing f e S h2)) y u → InRing f e S h2 u := fun {u} r => by
      cases r with
      | here => exact y2
      | on _ n => exact n.2
    have back : ∀ {u}, Rch (RgN f (InRing f e S h2)) y u → BkR f S h1 a u → BkR f S h1 a y := fun {u} r => by
      induction r with
      | here => exact id
      | on p n ih =>
        rename_i v u
        intro b
        have rv := inR p
        exact ih ⟨b.1, b.2.on ⟨⟨hall rv, n.1⟩, nof rv⟩⟩
    exact .inr ⟨a, t, back path bx⟩
end
end Rl
namespace Rl
open PySem PySem.Spec PyProof.Rows L2
section
variable {f : Int → List Int} {e : Int} {S : List Int}
theorem rg_both (hA : AllS f e S) (hw : Ways S f) (hS : S.Pairwise (· < ·)) {h1 h2 : Int} (hH1 : IsHead f e S h1) (hH2 : IsHead f e S h2) :
    (rgL f e S h1).filter (fun y => decide (y ∈ rgL f e S h2)) = [] ∨ (rgL f e S h1).filter (fun y => decide (y ∈ rgL f e S h2)) = rgL f e S h1 ∨ (rgL f e S h1).filter (fun y => decide (y ∈ rgL f e S h2)) = rgL f e S h2 := by
  have hp : S.Perm S := List.Perm.refl S
  have m1 := fun {k} => mem_rgL (k := k) hw hp hH1
  have m2 := fun {k} => mem_rgL (k := k) hw hp hH2
  have i1 := head_in hw hp hH1
  have i2 := head_in hw hp hH2
  have lt1 : ((rgL f e S h1).filter (fun y => decide (y ∈ rgL f e S h2))).Pairwise (· < ·) := (rgL_lt hS).sublist List.filter_sublist
  have mem : ∀ y, y ∈ (rgL f e S h1).filter (fun y => decide (y ∈ rgL f e S h2)) ↔ y ∈ rgL f e S h1 ∧ y ∈ rgL f e S h2 := fun y => by rw [List.mem_filter, decide_eq_true_iff]
  rcases h : (rgL f e S h1).filter (fun y => decide (y ∈ rgL f e S h2)) with _ | ⟨x, r⟩
  · exact .inl rfl
  · rw [← h]
    have hx := (mem x).mp (h ▸ List.mem_cons_self ..)
    have x1 := m1.mp hx.1
    have x2 := m2.mp hx.2
    have xS := ring_in hw hp hH1 x1
    by_cases z : h1 = h2
    · subst z
      exact .inr (.inl (sorted_uniq lt1 (rgL_lt hS) fun y => (mem y).trans ⟨fun w => w.1, fun w => ⟨w, w⟩⟩))
    · rcases dom_chain ((hA x).mp xS) (ring_dom x1) (ring_dom x2) with d | d
      · exact .inr (.inr (sorted_uniq lt1 (rgL_lt hS) fun y => (mem y).trans ⟨fun w => w.2, fun w => ⟨m1.mpr (ring_nest hA hH1 hH2 i1 i2 z d xS x1 x2 (fun r => ring_in hw hp hH2 r) (m2.mp w)), w⟩⟩))
      · exact .inr (.inl (sorted_uniq lt1 (rgL_lt hS) fun y => (mem y).trans ⟨fun w => w.1, fun w => ⟨w, m2.mpr (ring_nest hA hH2 hH1 i2 i1 (fun q => z q.symm) d xS x2 x1 (fun r => ring_in hw hp hH1 r) (m1.mp w))⟩⟩))
theorem rg_from (hA : AllS f e S) (hw : Ways S f) {h k : Int} (hH : IsHead f e S h) : k ∈ rgL f e S h ↔ Wi f (rgL f e S h) h k := by
  have hp : S.Perm S := List.Perm.refl S
  have m := fun {k} => mem_rgL (k := k) hw hp hH
  constructor
  · intro hk
    have r := m.mp hk
    exact ⟨m.mpr (.inl rfl), rch_mono (fun _ _ n => ⟨n.1, m.mpr n.2⟩) (ring_from hA (head_in hw hp hH) r (ring_in hw hp hH r))⟩
  · exact wi_in
theorem rg_to (hA : AllS f e S) (hw : Ways S f) {h k : Int} (hH : IsHead f e S h) (hk : k ∈ rgL f e S h) : ∃ i ∈ f k, Wi f (rgL f e S h) i h := by
  have hp : S.Perm S := List.Perm.refl S
  have m := fun {k} => mem_rgL (k := k) hw hp hH
  obtain ⟨i, h1, h2, h3⟩ := ring_to hA hH (head_in hw hp hH) (m.mp hk)
  exact ⟨i, h1, m.mpr h2, rch_mono (fun _ _ n => ⟨n.1, m.mpr n.2⟩) h3⟩
theorem rg_tail (hw : Ways S f) {h : Int} (hH : IsHead f e S h) : ∃ a ∈ rgL f e S h, h ∈ f a := by
  obtain ⟨a, h1, h2⟩ := ring_tail hH
  exact ⟨a, (mem_rgL hw (List.Perm.refl S) hH).mpr h1, h2⟩
theorem rg_dom (hw : Ways S f) {h k : Int} (hH : IsHead f e S h) (hk : k ∈ rgL f e S h) : k ∈ S ∧ ¬ CT f (some h) e k := by
  have r := (mem_rgL hw (List.Perm.refl S) hH).mp hk
  exact ⟨ring_in hw (List.Perm.refl S) hH r, ring_dom r⟩
theorem nl_ring (hA : AllS f e S) {b : Int} (h : nlS f e S = some b) : b ∈ S ∧ ∃ i ∈ f b, Wi f S i b := by
  have hb := List.mem_of_find?_eq_some h
  have hr := List.find?_some h
  simp only [decide_eq_true_eq] at hr
  obtain ⟨o, ho, r⟩ := hr
  have sub : ∀ x y, y ∈ cutG f e x → y ∈ f x := fun x y z => (List.mem_filter.mp z).1
  have oS : o ∈ S := (hA o).mpr (((hA b).mp hb).on (sub _ _ ho))
  refine ⟨hb, o, sub _ _ ho, oS, ?_⟩
  have key : ∀ {k}, Rch (fun x y => y ∈ cutG f e x) o k → k ∈ S ∧ Rch (fun x y => y ∈ f x ∧ y ∈ S) o k := fun {k} r => by
    induction r with
    | here => exact ⟨oS, .here⟩
    | on _ n ih =>
      have : _ ∈ S := (hA _).mpr (((hA _).mp ih.1).on (sub _ _ n))
      exact ⟨this, ih.2.on ⟨sub _ _ n, this⟩⟩
  exact (key r).2
end
end Rl
namespace Rl
open PySem PySem.Spec PyProof.Rows L2
/-! ## a graph behind some rows that only go on: plain -/
/-- F is f so far on, behind 0 .. far - 1 -/
structure Iso (f F : Int → List Int) (far : Nat) : Prop where
  f1 : 1 ≤ far
  nn : ∀ x, Rch (Stp f) 0 x → 0 ≤ x
  pre : ∀ k : Int, 0 ≤ k → k < far → ∀ y, y ∈ F k ↔ y = k + 1
  mv : ∀ x, Rch (Stp f) 0 x → ∀ y, y ∈ F (x + far) ↔ ∃ z ∈ f x, y = z + far
section
variable {f F : Int → List Int} {far : Nat} {S T : List Int}
theorem Iso.up (I : Iso f F far) {b : Option Int} (hb : b ≠ some 0) : ∀ k : Nat, k < far → (∀ o : Int, b = some o → (k : Int) < o) → Rch (fun x y => y ∈ F x ∧ b ≠ some y) 0 k
  | 0, _, _ => .here
  | k + 1, h, ho => by
    refine (I.up hb k (by omega) fun o z => by have := ho o z; omega).on (x := (k : Int)) ⟨(I.pre k (by omega) (by omega) _).mpr (by omega), fun z => ?_⟩
    have := ho _ z
    omega
theorem Iso.ctU (I : Iso f F far) {o k : Int} (h0 : 0 ≤ k) (h1 : k < far) (h2 : k < o) : CT F (some o) 0 k := by
  refine ⟨fun z => ?_, ?_⟩
  · have := Option.some.inj z
    omega
  · have e : ((k.toNat : Nat) : Int) = k := Int.toNat_of_nonneg h0
    rw [← e]
    refine I.up (fun z => ?_) _ (by omega) fun o' z => ?_
    · have := Option.some.inj z
      omega
    · have := Option.some.inj z
      omega
theorem Iso.ctD (I : Iso f F far) {o k : Int} (h0 : 0 ≤ o) (h1 : o < far) (h : CT F (some o) 0 k) : k < o := by
  have key : ∀ {k}, Rch (fun x y => y ∈ F x ∧ some o ≠ some y) 0 k → 0 ≤ k ∧ k < o := fun {k} r => by
    induction r with
    | here =>
      have : o ≠ 0 := fun z => h.1 (by rw [z])
      omega
    | on r n ih =>
      rename_i x y
      have := (I.pre x ih.1 (by omega) y).mp n.1
      have : y ≠ o := fun z => n.2 (by rw [z])
      omega
  exact (key h.2).2
theorem Iso.base (I : Iso f F far) {b : Option Int} (hb : b ≠ some 0) (hf : ∀ o : Int, b = some o → (far : Int) < o) : Rch (fun x y => y ∈ F x ∧ b ≠ some y) 0 (0 + far) := by
  have hf1 := I.f1
  refine (I.up hb (far - 1) (by omega) fun o z => by have := hf o z; omega).on (x := ((far - 1 : Nat) : Int)) ⟨(I.pre _ (by omega) (by omega) _).mpr (by omega), fun z => ?_⟩
  have := hf _ z
  omega
theorem Iso.reach (I : Iso f F far) {y : Int} : Rch (Stp F) 0 y ↔ (0 ≤ y ∧ y < far) ∨ ∃ x, Rch (Stp f) 0 x ∧ y = x + far := by
  have hf1 := I.f1
  constructor
  · intro r
    induction r with
    | here => exact .inl ⟨Int.le_refl _, by omega⟩
    | on r n ih =>
      rename_i x y
      rcases ih with ih | ⟨u, hu, rfl⟩
      · have := (I.pre x ih.1 ih.2 y).mp n
        by_cases z : y < far
        · exact .inl ⟨by omega, z⟩
        · exact .inr ⟨0, .here, by omega⟩
      · obtain ⟨z, hz, rfl⟩ := (I.mv u hu y).mp n
        exact .inr ⟨z, hu.on hz, rfl⟩
  · rintro (⟨h0, h1⟩ | ⟨x, r, rfl⟩)
    · have := I.up (b := none) (fun z => nomatch z) y.toNat (by omega) (fun _ z => nomatch z)
      rw [Int.toNat_of_nonneg h0] at this
      exact rch_mono (fun _ _ n => n.1) this
    · have b0 := rch_mono (M := Stp F) (fun _ _ n => n.1) (I.base (b := none) (fun z => nomatch z) (fun _ z => nomatch z))
      have key : ∀ {x}, Rch (Stp f) 0 x → Rch (Stp F) 0 (x + far) := fun {x} r => by
        induction r with
        | here => exact b0
        | on r n ih => exact ih.on ((I.mv _ r _).mpr ⟨_, n, rfl⟩)
      exact key r
theorem Iso.ct (I : Iso f F far) {o x : Int} (ho : 0 ≤ o) (hx : 0 ≤ x) : CT F (some (o + far)) 0 (x + far) ↔ CT f (some o) 0 x := by
  have hf1 := I.f1
  constructor
  · rintro ⟨_, r⟩
    have key : ∀ {y}, Rch (fun x y => y ∈ F x ∧ some (o + far) ≠ some y) 0 y → (0 ≤ y ∧ y < far) ∨ ∃ x, y = x + far ∧ CT f (some o) 0 x := fun {y} r => by
      induction r with
      | here => exact .inl ⟨Int.le_refl _, by omega⟩
      | on r n ih =>
        rename_i u y
        rcases ih with ih | ⟨v, rfl, hv⟩
        · have e := (I.pre u ih.1 ih.2 y).mp n.1
          by_cases z : y < far
          · exact .inl ⟨by omega, z⟩
          · refine .inr ⟨0, by omega, fun w => ?_, .here⟩
            obtain rfl := Option.some.inj w
            exact n.2 (by rw [show y = 0 + far by omega])
        · obtain ⟨z, hz, rfl⟩ := (I.mv v (rch_mono (fun _ _ n => n.1) hv.2) y).mp n.1
          exact .inr ⟨z, rfl, ct_on hv hz fun w => n.2 (by rw [Option.some.inj w])⟩
    rcases key r with h | ⟨u, e, h⟩
    · omega
    · rw [show x = u by omega]
      exact h
  · rintro ⟨h0, r⟩
    have ne : o ≠ 0 := fun z => h0 (by rw [z])
    refine ⟨fun z => ?_, ?_⟩
    · have := Option.some.inj z
      omega
    · have key : ∀ {x}, Rch (fun x y => y ∈ f x ∧ some o ≠ some y) 0 x → Rch (fun x y => y ∈ F x ∧ some (o + far) ≠ some y) 0 (x + far) := fun {x} r => by
        induction r with
        | here =>
          refine I.base (fun z => ?_) fun o' z => ?_
          · have := Option.some.inj z
            omega
          · have := Option.some.inj z
            omega
        | on r n ih =>
          refine ih.on ⟨(I.mv _ (rch_mono (fun _ _ n => n.1) r) _).mpr ⟨_, n.1, rfl⟩, fun z => n.2 ?_⟩
          have := Option.some.inj z
          congr 1
          omega
      exact key r
/-- 0, 1, .. -/
def upTo (n : Nat) : List Int := (List.range n).map fun (i : Nat) => (i : Int)
theorem mem_upTo {n : Nat} {k : Int} : k ∈ upTo n ↔ 0 ≤ k ∧ k < n := by
  unfold upTo
  rw [List.mem_map]
  constructor
  · rintro ⟨i, hi, rfl⟩
    have := List.mem_range.mp hi
    exact ⟨by omega, by omega⟩
  · rintro ⟨h0, h1⟩
    exact ⟨k.toNat, List.mem_range.mpr (by omega), Int.toNat_of_nonneg h0⟩
theorem upTo_lt (n : Nat) : (upTo n).Pairwise (· < ·) := by
  unfold upTo
  rw [List.pairwise_map]
  exact List.pairwise_lt_range.imp fun h => by omega
theorem mem_on {L : List Int} {y : Int} : y ∈ L.map (· + (far : Int)) ↔ ∃ x ∈ L, y = x + far := by
  rw [List.mem_map]
  exact ⟨fun ⟨x, h, e⟩ => ⟨x, h, e.symm⟩, fun ⟨x, h, e⟩ => ⟨x, h, e.symm⟩⟩
theorem on_lt {L : List Int} (h : L.Pairwise (· < ·)) : (L.map (· + (far : Int))).Pairwise (· < ·) := by
  rw [List.pairwise_map]
  exact h.imp fun z => by omega
theorem up_on_lt {L : List Int} (h : L.Pairwise (· < ·)) (h0 : ∀ x ∈ L, 0 ≤ x) : (upTo far ++ L.map (· + (far : Int))).Pairwise (· < ·) := by
  refine List.pairwise_append.mpr ⟨upTo_lt far, on_lt h, fun a ha b hb => ?_⟩
  have := mem_upTo.mp ha
  obtain ⟨x, hx, rfl⟩ := mem_on.mp hb
  have := h0 x hx
  omega
variable (hS : S.Pairwise (· < ·)) (hA : AllS f 0 S) (hT : T.Pairwise (· < ·)) (hB : AllS F 0 T)
theorem Iso.rows (I : Iso f F far) (hS : S.Pairwise (· < ·)) (hA : AllS f 0 S) (hT : T.Pairwise (· < ·)) (hB : AllS F 0 T) : T = upTo far ++ S.map (· + (far : Int)) :=
  sorted_uniq hT (up_on_lt hS fun x hx => I.nn x ((hA x).mp hx)) fun k => by
    rw [hB k, I.reach, List.mem_append, mem_upTo, mem_on]
    exact or_congr Iff.rfl ⟨fun ⟨x, h, e⟩ => ⟨x, (hA x).mpr h, e⟩, fun ⟨x, h, e⟩ => ⟨x, (hA x).mp h, e⟩⟩
theorem Iso.inT (I : Iso f F far) (hA : AllS f 0 S) (hB : AllS F 0 T) {y : Int} : y ∈ T ↔ (0 ≤ y ∧ y < far) ∨ ∃ x ∈ S, y = x + far := by
  rw [hB y, I.reach]
  exact or_congr Iff.rfl ⟨fun ⟨x, h, e⟩ => ⟨x, (hA x).mpr h, e⟩, fun ⟨x, h, e⟩ => ⟨x, (hA x).mp h, e⟩⟩
theorem Iso.ldU (I : Iso f F far) (hA : AllS f 0 S) (hT : T.Pairwise (· < ·)) (hB : AllS F 0 T) {k : Int} (h0 : 0 ≤ k) (h1 : k < far) : ldL F 0 T k = (upTo far).take (k + 1).toNat := by
  have e : (upTo far).take (k + 1).toNat = upTo (k + 1).toNat := by
    unfold upTo
    rw [← List.map_take, List.take_range, Nat.min_eq_left (by omega)]
  rw [e]
  refine sorted_uniq (ldL_lt hT) (upTo_lt _) fun o => ?_
  rw [mem_ldL, mem_upTo, I.inT hA hB]
  constructor
  · rintro ⟨h, c⟩
    rcases h with h | ⟨x, hx, rfl⟩
    · by_cases z : k < o
      · exact absurd (I.ctU h0 h1 z) c
      · exact ⟨h.1, by omega⟩
    · have := I.nn x ((hA x).mp hx)
      exact absurd (I.ctU h0 h1 (by omega)) c
  · rintro ⟨g0, g1⟩
    exact ⟨.inl ⟨g0, by omega⟩, fun c => by
      have := I.ctD g0 (by omega) c
      omega⟩
theorem Iso.ldO (I : Iso f F far) (hS : S.Pairwise (· < ·)) (hA : AllS f 0 S) (hT : T.Pairwise (· < ·)) (hB : AllS F 0 T) {x : Int} (hx : x ∈ S) : ldL F 0 T (x + far) = upTo far ++ (ldL f 0 S x).map (· + (far : Int)) := by
  have x0 := I.nn x ((hA x).mp hx)
  refine sorted_uniq (ldL_lt hT) (up_on_lt (ldL_lt hS) fun y hy => I.nn y ((hA y).mp (mem_ldL.mp hy).1)) fun o => ?_
  rw [mem_ldL, List.mem_append, mem_upTo, mem_on, I.inT hA hB]
  constructor
  · rintro ⟨h | ⟨u, hu, rfl⟩, c⟩
    · exact .inl h
    · exact .inr ⟨u, mem_ldL.mpr ⟨hu, fun z => c ((I.ct (I.nn u ((hA u).mp hu)) x0).mpr z)⟩, rfl⟩
  · rintro (h | ⟨u, hu, rfl⟩)
    · exact ⟨.inl h, fun c => by
        have := I.ctD h.1 h.2 c
        omega⟩
    · obtain ⟨h1, h2⟩ := mem_ldL.mp hu
      exact ⟨.inr ⟨u, h1, rfl⟩, fun c => h2 ((I.ct (I.nn u ((hA u).mp h1)) x0).mp c)⟩
theorem Iso.head (I : Iso f F far) (hA : AllS f 0 S) (hB : AllS F 0 T) {h : Int} : IsHead F 0 T h ↔ ∃ g, IsHead f 0 S g ∧ h = g + far := by
  constructor
  · rintro ⟨a, h1, h2, h3⟩
    have h3 := isTurn_iff.mp h3
    rcases (I.inT hA hB).mp h1 with z | ⟨x, hx, rfl⟩
    · have := (I.pre a z.1 z.2 h).mp h2
      exact absurd (I.ctU z.1 z.2 (by omega)) h3
    · obtain ⟨g, hg, rfl⟩ := (I.mv x ((hA x).mp hx) h).mp h2
      exact ⟨g, ⟨x, hx, hg, isTurn_iff.mpr fun z => h3 ((I.ct (I.nn g (((hA x).mp hx).on hg)) (I.nn x ((hA x).mp hx))).mpr z)⟩, rfl⟩
  · rintro ⟨g, ⟨x, hx, hg, t⟩, rfl⟩
    exact ⟨x + far, (I.inT hA hB).mpr (.inr ⟨x, hx, rfl⟩), (I.mv x ((hA x).mp hx) _).mpr ⟨g, hg, rfl⟩, isTurn_iff.mpr fun z => isTurn_iff.mp t ((I.ct (I.nn g (((hA x).mp hx).on hg)) (I.nn x ((hA x).mp hx))).mp z)⟩
theorem Iso.turn (I : Iso f F far) (hA : AllS f 0 S) {x g : Int} (hx : x ∈ S) (hg : g ∈ f x) : isTurn F 0 (x + far) (g + far) = isTurn f 0 x g := by
  have c := I.ct (I.nn g (((hA x).mp hx).on hg)) (I.nn x ((hA x).mp hx))
  rw [Bool.eq_iff_iff, isTurn_iff, isTurn_iff, c]
theorem Iso.ring (I : Iso f F far) (hA : AllS f 0 S) (hB : AllS F 0 T) {g y : Int} (hg : IsHead f 0 S g) (gS : g ∈ S) : InRing F 0 T (g + far) y ↔ ∃ x, InRing f 0 S g x ∧ y = x + far := by
  have g0 := I.nn g ((hA g).mp gS)
  constructor
  · rintro (rfl | ⟨a, t, nb, r⟩)
    · exact ⟨g, .inl rfl, rfl⟩
    · rcases (I.inT hA hB).mp t.1 with z | ⟨x, hx, rfl⟩
      · have h3 := isTurn_iff.mp t.2.2
        exact absurd (I.ctU z.1 z.2 (by omega)) h3
      · have t2 : x ∈ S ∧ g ∈ f x ∧ isTurn f 0 x g = true := by
          obtain ⟨g', hg', e⟩ := (I.mv x ((hA x).mp hx) _).mp t.2.1
          obtain rfl : g = g' := by omega
          exact ⟨hx, hg', by rw [← I.turn hA hx hg']; exact t.2.2⟩
        have key : ∀ {y}, Rch (fun x y => (y ∈ T ∧ x ∈ F y) ∧ g + far ≠ y) (x + far) y → ∃ u, u ∈ S ∧ BkR f S g x u ∧ y = u + far := fun {y} r => by
          induction r with
          | here => exact ⟨x, hx, ⟨fun z => nb (by rw [z]), .here⟩, rfl⟩
          | on r n ih =>
            rename_i v y
            obtain ⟨u, hu, b, rfl⟩ := ih
            rcases (I.inT hA hB).mp n.1.1 with z | ⟨k, hk, rfl⟩
            · exact absurd (I.ctU z.1 z.2 (by omega)) (ring_dom (.inr ⟨x + far, t, nb, r.on n⟩))
            · obtain ⟨u', hu', e⟩ := (I.mv k ((hA k).mp hk) _).mp n.1.2
              obtain rfl : u = u' := by omega
              exact ⟨k, hk, ⟨b.1, b.2.on ⟨⟨hk, hu'⟩, fun z => n.2 (by rw [z])⟩⟩, rfl⟩
        obtain ⟨u, _, b, rfl⟩ := key r
        exact ⟨u, .inr ⟨x, t2, b⟩, rfl⟩
  · rintro ⟨x, rfl | ⟨a, t, nb, r⟩, rfl⟩
    · exact .inl rfl
    · refine .inr ⟨a + far, ⟨(I.inT hA hB).mpr (.inr ⟨a, t.1, rfl⟩), (I.mv a ((hA a).mp t.1) _).mpr ⟨g, t.2.1, rfl⟩, by rw [I.turn hA t.1 t.2.1]; exact t.2.2⟩, fun z => nb (by omega), ?_⟩
      have key : ∀ {x}, Rch (fun x y => (y ∈ S ∧ x ∈ f y) ∧ g ≠ y) a x → Rch (fun x y => (y ∈ T ∧ x ∈ F y) ∧ g + far ≠ y) (a + far) (x + far) := fun {x} r => by
        induction r with
        | here => exact .here
        | on r n ih => exact ih.on ⟨⟨(I.inT hA hB).mpr (.inr ⟨_, n.1.1, rfl⟩), (I.mv _ ((hA _).mp n.1.1) _).mpr ⟨_, n.1.2, rfl⟩⟩, fun z => n.2 (by omega)⟩
      exact key r
theorem Iso.rgH (I : Iso f F far) (hS : S.Pairwise (· < ·)) (hA : AllS f 0 S) (hw : Ways S f) (hT : T.Pairwise (· < ·)) (hB : AllS F 0 T) (hv : Ways T F) : rgH F 0 T = (rgH f 0 S).map (· + (far : Int)) :=
  sorted_uniq (rgH_lt hT) (on_lt (rgH_lt hS)) fun k => by
    rw [mem_rgH hv (List.Perm.refl T), I.head hA hB, mem_on]
    exact ⟨fun ⟨g, h, e⟩ => ⟨g, (mem_rgH hw (List.Perm.refl S)).mpr h, e⟩, fun ⟨g, h, e⟩ => ⟨g, (mem_rgH hw (List.Perm.refl S)).mp h, e⟩⟩
theorem Iso.rgL (I : Iso f F far) (hS : S.Pairwise (· < ·)) (hA : AllS f 0 S) (hw : Ways S f) (hT : T.Pairwise (· < ·)) (hB : AllS F 0 T) (hv : Ways T F) {g : Int} (hg : g ∈ Rl.rgH f 0 S) : rgL F 0 T (g + far) = (Rl.rgL f 0 S g).map (· + (far : Int)) := by
  have hg := (mem_rgH hw (List.Perm.refl S)).mp hg
  have gS := head_in hw (List.Perm.refl S) hg
  refine sorted_uniq (rgL_lt hT) (on_lt (rgL_lt hS)) fun k => ?_
  rw [mem_rgL hv (List.Perm.refl T) ((I.head hA hB).mpr ⟨g, hg, rfl⟩), I.ring hA hB hg gS, mem_on]
  exact ⟨fun ⟨x, h, e⟩ => ⟨x, (mem_rgL hw (List.Perm.refl S) hg).mpr h, e⟩, fun ⟨x, h, e⟩ => ⟨x, (mem_rgL hw (List.Perm.refl S) hg).mp h, e⟩⟩
theorem Iso.cut (I : Iso f F far) (hA : AllS f 0 S) {x y : Int} (hx : x ∈ S) : y ∈ cutG F 0 (x + far) ↔ ∃ z ∈ cutG f 0 x, y = z + far := by
  unfold cutG
  rw [List.mem_filter]
  constructor
  · rintro ⟨h1, h2⟩
    obtain ⟨z, hz, rfl⟩ := (I.mv x ((hA x).mp hx) _).mp h1
    rw [I.turn hA hx hz] at h2
    exact ⟨z, List.mem_filter.mpr ⟨hz, h2⟩, rfl⟩
  · rintro ⟨z, hz, rfl⟩
    obtain ⟨h1, h2⟩ := List.mem_filter.mp hz
    exact ⟨(I.mv x ((hA x).mp hx) _).mpr ⟨z, h1, rfl⟩, by rw [I.turn hA hx h1]; exact h2⟩
theorem Iso.ringG (I : Iso f F far) (hA : AllS f 0 S) {x : Int} (hx : x ∈ S) : RingG (cutG F 0) (x + far) ↔ RingG (cutG f 0) x := by
  have inS : ∀ {u v}, u ∈ S → v ∈ cutG f 0 u → v ∈ S := fun hu hv => (hA _).mpr (((hA _).mp hu).on (List.mem_filter.mp hv).1)
  constructor
  · rintro ⟨o, ho, r⟩
    obtain ⟨z, hz, rfl⟩ := (I.cut hA hx).mp ho
    have key : ∀ {y}, Rch (fun x y => y ∈ cutG F 0 x) (z + far) y → ∃ u ∈ S, y = u + far ∧ Rch (fun x y => y ∈ cutG f 0 x) z u := fun {y} r => by
      induction r with
      | here => exact ⟨z, inS hx hz, rfl, .here⟩
      | on r n ih =>
        obtain ⟨u, hu, rfl, q⟩ := ih
        obtain ⟨v, hv, rfl⟩ := (I.cut hA hu).mp n
        exact ⟨v, inS hu hv, rfl, q.on hv⟩
    obtain ⟨u, _, e, q⟩ := key r
    obtain rfl : x = u := by omega
    exact ⟨z, hz, q⟩
  · rintro ⟨z, hz, r⟩
    refine ⟨z + far, (I.cut hA hx).mpr ⟨z, hz, rfl⟩, ?_⟩
    have key : ∀ {u}, Rch (fun x y => y ∈ cutG f 0 x) z u → u ∈ S ∧ Rch (fun x y => y ∈ cutG F 0 x) (z + far) (u + far) := fun {u} r => by
      induction r with
      | here => exact ⟨inS hx hz, .here⟩
      | on r n ih => exact ⟨inS ih.1 n, ih.2.on ((I.cut hA ih.1).mpr ⟨_, n, rfl⟩)⟩
    exact (key r).2
theorem Iso.noRing (I : Iso f F far) {k : Int} (h0 : 0 ≤ k) (h1 : k < far) : ¬ RingG (cutG F 0) k := by
  rintro ⟨o, ho, r⟩
  have e := (I.pre k h0 h1 o).mp (List.mem_filter.mp ho).1
  subst e
  have st : ∀ {u v : Int}, 0 ≤ u → u < far → v ∈ F u → v = u + 1 := fun a b c => (I.pre _ a b _).mp c
  have key : ∀ {y}, Rch (fun x y => y ∈ cutG F 0 x) (k + 1) y → (k < y ∧ y < far) ∨ ∃ x, Rch (Stp f) 0 x ∧ y = x + far := fun {y} r => by
    induction r with
    | here =>
      by_cases z : k + 1 < far
      · exact .inl ⟨by omega, z⟩
      · exact .inr ⟨0, .here, by omega⟩
    | on r n ih =>
      rename_i u y
      have n := (List.mem_filter.mp n).1
      rcases ih with ih | ⟨x, hx, rfl⟩
      · have := st (by omega) ih.2 n
        by_cases z : y < far
        · exact .inl ⟨by omega, z⟩
        · exact .inr ⟨0, .here, by omega⟩
      · obtain ⟨z, hz, rfl⟩ := (I.mv x hx _).mp n
        exact .inr ⟨z, hx.on hz, rfl⟩
  rcases key r with h | ⟨x, hx, e⟩
  · omega
  · have := I.nn x hx
    omega
theorem Iso.nl (I : Iso f F far) (hS : S.Pairwise (· < ·)) (hA : AllS f 0 S) (hT : T.Pairwise (· < ·)) (hB : AllS F 0 T) : nlS F 0 T = (nlS f 0 S).map (· + (far : Int)) := by
  have e := I.rows hS hA hT hB
  unfold nlS
  rw [e, List.find?_append, List.find?_eq_none.mpr fun k hk => by
    simp only [decide_eq_true_eq]
    exact I.noRing (mem_upTo.mp hk).1 (mem_upTo.mp hk).2, Option.none_or, List.find?_map]
  congr 1
  have cg : ∀ {U : List Int}, (∀ x ∈ U, x ∈ S) → U.find? ((fun k => @decide (RingG (cutG F 0) k) (Classical.propDecidable _)) ∘ (· + (far : Int))) = U.find? fun k => @decide (RingG (cutG f 0) k) (Classical.propDecidable _) := fun {U} h => by
    induction U with
    | nil => rfl
    | cons u U ih =>
      have c := I.ringG hA (h u (List.mem_cons_self ..))
      rw [List.find?_cons, List.find?_cons, ih fun x hx => h x (List.mem_cons_of_mem _ hx)]
      have : ((fun k => @decide (RingG (cutG F 0) k) (Classical.propDecidable _)) ∘ (· + (far : Int))) u = @decide (RingG (cutG f 0) u) (Classical.propDecidable _) := by
        exact decide_eq_decide.mpr c
      rw [this]
  exact cg fun _ h => h
end
end Rl
namespace Rl
open PySem PySem.Spec PyProof.Rows L2
/-- behind_and_target: slots 0 code, 1 address, 2 found, 3 row, 4 many, 5 behind -/
def t_behind_and_target (K : PySem.W.Frag) (w : World) : TS :=
  (tSeq (tAsg (tCall (sp_row_at K w) [] E0 (tCons (tVar 0) (tCons (tVar 1) tNil))) (gName 2)) (tSeq (tIfS (tTest (tOp (rIsN) (tVar 2) (tC .non))) (tRet (tTup (tCons (tC .non) (tCons (tC .non) tNil)))) tNext) (tSeq (tAsg (tVar 2) (gTup K 2 (gCons (gName 3) (gCons (gName 4) gNil)))) (tSeq (tAsg (tIf (tTest (tOp ((rIn K false)) (tOp (rIx K) (tVar 3) (tC (.int 0))) (tC (.ref (He.ga K "ENDS"))))) (tC .non) (tOp (rAddA K) (tVar 1) (tVar 4))) (gName 5)) (tRet (tTup (tCons (tVar 5) (tCons (tIf (tTest (tOp ((rIn K false)) (tOp (rIx K) (tVar 3) (tC (.int 0))) (tC (.ref (He.ga K "TARGETS"))))) (tOp (rIx K) (tVar 3) (tC (.int 1))) (tC .non)) tNil))))))))
abbrev N_behind_and_target : List Str := ["code", "address", "found", "row", "many", "behind"]

/-- is_call: slots 0 code, 1 address, 2 found -/
def t_is_call (K : PySem.W.Frag) (w : World) : TS :=
  (tSeq (tAsg (tCall (sp_row_at K w) [] E0 (tCons (tVar 0) (tCons (tVar 1) tNil))) (gName 2)) (tRet (tAndV (tOp (rNotN) (tVar 2) (tC .non)) (tOp (rEqA K) (tOp (rIx K) (tOp (rIx K) (tVar 2) (tC (.int 0))) (tC (.int 0))) (tC (.str "call"))))))
abbrev N_is_call : List Str := ["code", "address", "found"]

/-- goes_on: slots 0 code, 1 address, 2 behind, 3 target, 4 place -/
def t_goes_on (K : PySem.W.Frag) (w : World) : TS :=
  (tSeq (tAsg (tCall (sp_behind_and_target K w) [] E0 (tCons (tVar 0) (tCons (tVar 1) tNil))) (gTup K 2 (gCons (gName 2) (gCons (gName 3) gNil)))) (tSeq (tIfS (tB (tCall (sp_is_call K w) [] E0 (tCons (tVar 0) (tCons (tVar 1) tNil)))) (tAsg (tC .non) (gName 3)) tNext) (tRet (tCB (rSortedSet w) (tCons (tScI w (iSeq K (tTup (tCons (tVar 2) (tCons (tVar 3) tNil)))) (gName 4) (tTest (tOp (rNotN) (tVar 4) (tC .non))) (tVar 4) [4]) tNil)))))
abbrev N_goes_on : List Str := ["code", "address", "behind", "target", "place"]

/-- ways_within: slots 0 code, 1 entry, 2 found, 3 left, 4 address -/
def t_ways_within (K : PySem.W.Frag) (w : World) : TS :=
  (tSeq (tAsg tDNewK (gName 2)) (tSeq (tAsg (tLst (tCons (tVar 1) tNil)) (gName 3)) (tSeq (tWhile (tTest (tOp (rNeA K) (tVar 3) (tLst tNil))) (tSeq (tAsg (tBM0 K "list" rPop (tVar 3)) (gName 4)) (tIfS (tB (tDNotIn (tVar 4) (tVar 2))) (tSeq (sDPut (tVar 2) (tVar 4) (tCall (sp_goes_on K w) [] E0 (tCons (tVar 0) (tCons (tVar 4) tNil)))) (tDrop (tBM K "list" rExtend (tVar 3) (tCons (tDGet (tVar 2) (tVar 4)) tNil)))) tNext))) (tRet (tVar 2)))))
abbrev N_ways_within : List Str := ["code", "entry", "found", "left", "address"]

/-- come_to: slots 0 ways, 1 first, 2 barred, 3 found, 4 left, 5 address, 6 other -/
def t_come_to (K : PySem.W.Frag) (w : World) : TS :=
  (tSeq (tAsg tDNewK (gName 3)) (tSeq (tAsg (tIf (tTest (tOp (rNeA K) (tVar 1) (tVar 2))) (tLst (tCons (tVar 1) tNil)) (tLst tNil)) (gName 4)) (tSeq (tWhile (tTest (tOp (rNeA K) (tVar 4) (tLst tNil))) (tSeq (tAsg (tBM0 K "list" rPop (tVar 4)) (gName 5)) (tIfS (tB (tDNotIn (tVar 5) (tVar 3))) (tSeq (sDPut (tVar 3) (tVar 5) (tC (.bl true))) (tDrop (tBM K "list" rExtend (tVar 4) (tCons (tLc (iSeq K (tDGet (tVar 0) (tVar 5))) (gName 6) (tTest (tOp (rNeA K) (tVar 6) (tVar 2))) (tVar 6) [6]) tNil)))) tNext))) (tRet (tVar 3)))))
abbrev N_come_to : List Str := ["ways", "first", "barred", "found", "left", "address", "other"]

/-- leaders: slots 0 ways, 1 entry, 2 found, 3 address, 4 leader, 5 free -/
def t_leaders (K : PySem.W.Frag) (w : World) : TS :=
  (tSeq (tAsg (tDc (iKeys (tFrz (tVar 0))) (gName 3) tYes (tVar 3) (tLst tNil) [3]) (gName 2)) (tSeq (tFor (iSeq K (tCB (rSortedR) (tCons (tVar 0) tNil))) (gName 4) (tSeq (tAsg (tCall (sp_come_to K w) [] E0 (tCons (tVar 0) (tCons (tVar 1) (tCons (tVar 4) tNil)))) (gName 5)) (tFor (iKeys (tFrz (tVar 0))) (gName 3) (tIfS (tB (tDNotIn (tVar 3) (tVar 5))) (tDrop (tBM K "list" rAppend (tDGet (tVar 2) (tVar 3)) (tCons (tVar 4) tNil))) tNext)))) (tRet (tVar 2))))
abbrev N_leaders : List Str := ["ways", "entry", "found", "address", "leader", "free"]

/-- led_over: slots 0 code, 1 entry, 2 over, 3 address -/
def t_led_over (K : PySem.W.Frag) (w : World) : TS :=
  (tSeq (tAsg (tCall (sp_leaders K w) [] E0 (tCons (tCall (sp_ways_within K w) [] E0 (tCons (tVar 0) (tCons (tVar 1) tNil))) (tCons (tVar 1) tNil))) (gName 2)) (tRet (tLc (iSeq K (tCB (rSortedR) (tCons (tVar 2) tNil))) (gName 3) tYes (tTup (tCons (tVar 3) (tCons (tDGet (tVar 2) (tVar 3)) tNil))) [3])))
abbrev N_led_over : List Str := ["code", "entry", "over", "address"]

end Rl
namespace Rl
open PySem PySem.Spec PyProof.Rows L2 NdefX LamX
/-- turns_back: slots 0 ways, 1 entry, 2 over, 3 address, 4 other -/
def t_turns_back (K : PySem.W.Frag) (w : World) : TS :=
  (tSeq (tAsg (tCall (sp_leaders K w) [] E0 (tCons (tVar 0) (tCons (tVar 1) tNil))) (gName 2)) (tRet (tLc2 (iSeq K (tCB (rSortedR) (tCons (tVar 0) tNil))) (gName 3) tYes (iSeq K (tDGet (tVar 0) (tVar 3))) (gName 4) (tTest (tOp ((rIn K false)) (tVar 4) (tDGet (tVar 2) (tVar 3)))) (tTup (tCons (tVar 3) (tCons (tVar 4) tNil))) [3, 4] [4])))
abbrev N_turns_back : List Str := ["ways", "entry", "over", "address", "other"]

/-- not_led: slots 0 code, 1 entry, 2 ways, 3 taken, 4 turn, 5 left, 6 other, 7 one, 8 address -/
def t_not_led (K : PySem.W.Frag) (w : World) : TS :=
  (tSeq (tAsg (tCall (sp_ways_within K w) [] E0 (tCons (tVar 0) (tCons (tVar 1) tNil))) (gName 2)) (tSeq (tAsg (tDcT (iSeq K (tCall (sp_turns_back K w) [] E0 (tCons (tVar 2) (tCons (tVar 1) tNil)))) (gName 4) tYes (tVar 4) (tC (.bl true)) [4]) (gName 3)) (tSeq (tAsg (tDc (iKeys (tFrz (tVar 2))) (gName 7) tYes (tVar 7) (tLc (iSeq K (tDGet (tVar 2) (tVar 7))) (gName 6) (tB (tDNotIn (tTup (tCons (tVar 7) (tCons (tVar 6) tNil))) (tVar 3))) (tVar 6) [6]) [7]) (gName 5)) (tSeq (tFor (iSeq K (tCB (rSortedR) (tCons (tVar 5) tNil))) (gName 8) (tIfS (tB (tCB (rAny K) (tCons (tLc (iSeq K (tDGet (tVar 5) (tVar 8))) (gName 6) tYes (tDIn (tVar 8) (tCall (sp_come_to K w) [] E0 (tCons (tVar 5) (tCons (tVar 6) (tCons (tC .non) tNil))))) [6]) tNil))) (tRet (tVar 8)) tNext)) (tRet (tC .non))))))
abbrev N_not_led : List Str := ["code", "entry", "ways", "taken", "turn", "left", "other", "one", "address"]

/-- turned_away: slots 0 ways, 1 found, 2 address, 3 others, 4 other -/
def t_turned_away (K : PySem.W.Frag) (w : World) : TS :=
  (tSeq (tAsg (tDc (iKeys (tFrz (tVar 0))) (gName 2) tYes (tVar 2) (tLst tNil) [2]) (gName 1)) (tSeq (tFor (iItems (tFrz (tVar 0))) (gTup K 2 (gCons (gName 2) (gCons (gName 3) gNil))) (tFor (iSeq K (tVar 3)) (gName 4) (tDrop (tBM K "list" rAppend (tDGet (tVar 1) (tVar 4)) (tCons (tVar 2) tNil))))) (tRet (tVar 1))))
abbrev N_turned_away : List Str := ["ways", "found", "address", "others", "other"]

/-- rings: slots 0 code, 1 entry, 2 ways, 3 back, 4 found, 5 address, 6 head, 7 ring -/
def t_rings (K : PySem.W.Frag) (w : World) : TS :=
  (tSeq (tAsg (tCall (sp_ways_within K w) [] E0 (tCons (tVar 0) (tCons (tVar 1) tNil))) (gName 2)) (tSeq (tAsg (tCall (sp_turned_away K w) [] E0 (tCons (tVar 2) tNil)) (gName 3)) (tSeq (tAsg tDNewK (gName 4)) (tSeq (tFor (iSeq K (tCall (sp_turns_back K w) [] E0 (tCons (tVar 2) (tCons (tVar 1) tNil)))) (gTup K 2 (gCons (gName 5) (gCons (gName 6) gNil))) (tSeq (tAsg (tDSetd (tVar 4) (tVar 6) (tDisp [((tVar 6), (tC (.bl true)))])) (gName 7)) (tDrop (tBM K "dict" rUpdate (tVar 7) (tCons (tCall (sp_come_to K w) [] E0 (tCons (tVar 3) (tCons (tVar 5) (tCons (tVar 6) tNil)))) tNil))))) (tRet (tLc (iSeq K (tCB (rSortedR) (tCons (tVar 4) tNil))) (gName 6) tYes (tTup (tCons (tVar 6) (tCons (tCB (rSortedR) (tCons (tDGet (tVar 4) (tVar 6)) tNil)) tNil))) [6]))))))
abbrev N_rings : List Str := ["code", "entry", "ways", "back", "found", "address", "head", "ring"]

end Rl
namespace Rl
open PySem PySem.Spec PyProof.Rows L2 NdefX LamX
/-- found_places.onward: slots 0 address, 1 code, 2 place -/
def t_found_places_onward (K : PySem.W.Frag) (w : World) : TS :=
  (tRet (tLc (iSeq K (tCall (sp_behind_and_target K w) [] E0 (tCons (tVar 1) (tCons (tVar 0) tNil)))) (gName 2) (tTest (tOp (rNotN) (tVar 2) (tC .non))) (tVar 2) [2]))
abbrev N_found_places_onward : List Str := ["address", "code", "place"]

/-- all_from: slots 0 first, 1 onward, 2 found, 3 waiting, 4 place -/
def t_all_from (K : PySem.W.Frag) (w : World) : TS :=
  (tSeq (tAsg (tDisp [((tVar 0), (tC (.bl true)))]) (gName 2)) (tSeq (tAsg (tLst (tCons (tVar 0) tNil)) (gName 3)) (tSeq (tWhile (tTest (tOp (rNeA K) (tVar 3) (tLst tNil))) (tFor (iSeq K (tCallH 1 "code" (OnP K) (tCons (tBM0 K "list" rPop (tVar 3)) tNil))) (gName 4) (tIfS (tB (tDNotIn (tVar 4) (tVar 2))) (tSeq (sDPut (tVar 2) (tVar 4) (tC (.bl true))) (tDrop (tBM K "list" rAppend (tVar 3) (tCons (tVar 4) tNil)))) tNext))) (tRet (tCB (rSortedD) (tCons (tVar 2) tNil))))))
abbrev N_all_from : List Str := ["first", "onward", "found", "waiting", "place"]

/-- found_places: slots 0 code, 1 onward -/
def t_found_places (K : PySem.W.Frag) (w : World) (cc : Addr) : TS :=
  (tSeq (tNdef (NT K) 1 (NF.of on_found_places "onward" on_q_found_places [("code", cc)])) (tRet (tCallC K cc 0 (sp_all_from K w) (tCons (tC (.int 0)) (tCons (tVar 1) tNil)))))
abbrev N_found_places : List Str := ["code", "onward"]

/-- found_rows: slots 0 code, 1 found, 2 address, 3 row -/
def t_found_rows (K : PySem.W.Frag) (w : World) : TS :=
  (tSeq (tAsg (tLc (iSeq K (tCall (sp_found_places K w) [] E0 (tCons (tVar 0) tNil))) (gName 2) tYes (tTup (tCons (tVar 2) (tCons (tCall (sp_row_at K w) [] E0 (tCons (tVar 0) (tCons (tVar 2) tNil))) tNil))) [2]) (gName 1)) (tRet (tLc (iSeq K (tVar 1)) (gTup K 2 (gCons (gName 2) (gCons (gName 3) gNil))) tYes (tTup (tCons (tVar 2) (tCons (tIf (tTest (tOp (rIsN) (tVar 3) (tC .non))) (tC .non) (tOp (rIx K) (tVar 3) (tC (.int 0)))) tNil))) [2, 3])))
abbrev N_found_rows : List Str := ["code", "found", "address", "row"]

end Rl
/-! short words: rd goes through a reading as far as it can; hx, sq find what stands in a heap -/
local macro_rules | `(tactic| lcg_sub) => `(tactic| first
  | with_reducible assumption
  | with_reducible exact L2.upd_same
  | ((with_reducible apply Rl.upd_get); (focus (with_reducible assumption)); lcg_sub)
  | ((with_reducible apply Rl.upd_mut); (focus (with_reducible assumption)); lcg_sub)
  | ((with_reducible apply Rl.Fx.at); (focus (with_reducible assumption)); (focus (with_reducible assumption)); lcg_sub))
local macro_rules | `(tactic| lcg_off) => `(tactic| first
  | with_reducible assumption
  | with_reducible exact Rl.same_upd (by with_reducible assumption)
  | with_reducible exact Rl.Same.but (Rl.same_upd (by with_reducible assumption))
  | with_reducible exact Rl.Same.but (by with_reducible assumption))
local macro_rules | `(tactic| k_subL) => `(tactic| first
  | with_reducible assumption
  | with_reducible exact L2.Same.refl _
  | ((with_reducible apply Rl.sm_bmut); k_subL)
  | ((with_reducible apply Rl.sm_new); (focus (with_reducible assumption)); k_subL)
  | ((with_reducible apply Rl.sm_bnew); (focus (with_reducible assumption)); k_subL)
  | ((with_reducible apply Rl.sm_by); (focus (with_reducible assumption)); k_subL)
  | ((with_reducible apply Rl.sm_bby); (focus (with_reducible assumption)); k_subL)
  | ((with_reducible apply Rl.Same.mut); (focus (with_reducible assumption)); k_subL)
  | ((with_reducible apply Rl.Fx.same); (focus (with_reducible assumption)); (focus (with_reducible assumption)); k_subL))
local macro_rules | `(tactic| lcg_src) => `(tactic| first
  | with_reducible assumption
  | ((with_reducible apply L2.SqL.of); lcg_sub; done)
  | ((with_reducible apply L2.SqT.of); lcg_sub; done)
  | ((with_reducible apply Rl.SqL.mono); (focus (lcg_off)); lcg_src)
  | ((with_reducible apply Rl.SqT.mono); (focus (lcg_off)); lcg_src)
  | ((with_reducible apply Rl.Dp.mono); (focus (lcg_off)); lcg_src)
  | ((with_reducible apply Rl.Code.mono); (focus (lcg_off)); lcg_src))
local macro_rules | `(tactic| k_caughtN0) => `(tactic| first
  | assumption
  | (refine Nat.le_trans (m := 1000) (by simp only [List.length_cons, List.length_nil]; omega) (by decide))
  | omega)
local macro_rules | `(tactic| k_caughtB) => `(tactic| first
  | assumption
  | decide
  | omega)
local macro_rules | `(tactic| k_clsL) => `(tactic| first
  | exact Rl.R.cmul1 (by omega) (by omega)
  | exact Rl.R.cmul2 (by omega) (by omega)
  | exact Rl.R.cmul2 (by decide) (by decide)
  | exact Rl.R.cmul1 (by decide) (by decide))
local macro_rules | `(tactic| k_offL) => `(tactic| first
  | exact Rl.R.cdivL (by decide)
  | exact Rl.R.cdiv (by first | assumption | omega) (by first | assumption | omega))
local macro_rules | `(tactic| k_caught0) => `(tactic| repeat (first
  | with_reducible refine Rl.R.var ?_
  | with_reducible refine Rl.R.c ?_
  | with_reducible refine Rl.R.op ?_
  | with_reducible refine Rl.R.cons ?_
  | with_reducible refine Rl.R.nil ?_
  | with_reducible refine Rl.R.asg ?_
  | with_reducible refine Rl.R.gName ?_
  | with_reducible refine Rl.R.seq ?_
  | with_reducible refine Rl.R.cb ?_
  | with_reducible refine Rl.R.test ?_
  | with_reducible refine Rl.R.bl ?_
  | with_reducible refine Rl.R.eqIx ?_
  | with_reducible refine Rl.R.eqI ?_
  | with_reducible refine Rl.R.addI ?_
  | with_reducible refine Rl.R.ifS ?_
  | with_reducible refine Rl.R.next ?_
  | with_reducible refine Rl.R.tB' ?_
  | with_reducible refine Rl.R.ret ?_
  | with_reducible refine Rl.R.iT ?_
  | with_reducible refine Rl.R.iF ?_
  | with_reducible refine Rl.R.iFO ?_
  | with_reducible refine Rl.R.iTO ?_
  | with_reducible refine Rl.R.iTA ?_
  | with_reducible refine Rl.R.iFA ?_
  | ((with_reducible refine Rl.R.iDT ?_ ?_); (focus (exact rfl)))
  | with_reducible refine Rl.R.call ?_
  | with_reducible refine Rl.R.bm ?_
  | with_reducible refine Rl.R.rev ?_
  | ((with_reducible apply Rl.R.tyL); (focus (lcg_sub; done)))
  | with_reducible refine Rl.R.lstRg ?_
  | with_reducible refine Rl.R.rg1 ?_
  | with_reducible refine Rl.R.rg2 ?_
  | with_reducible refine Rl.R.exII ?_
  | with_reducible refine Rl.R.strIter ?_
  | with_reducible refine Rl.R.pairsC ?_
  | with_reducible refine Rl.R.pairsN ?_
  | with_reducible refine Rl.R.dget ?_
  | with_reducible refine Rl.R.inS ?_
  | with_reducible refine Rl.R.app ?_
  | with_reducible refine Rl.R.tup ?_
  | with_reducible refine Rl.R.lst ?_
  | with_reducible refine Rl.R.subI ?_
  | with_reducible refine Rl.R.ltI ?_
  | with_reducible refine Rl.R.leI ?_
  | with_reducible refine Rl.R.gtI ?_
  | with_reducible refine Rl.R.geI ?_
  | with_reducible refine Rl.R.eqSx ?_
  | with_reducible refine Rl.R.eqBx ?_
  | with_reducible refine Rl.R.neBx ?_
  | with_reducible refine Rl.R.neIx ?_
  | with_reducible refine Rl.R.neSx ?_
  | with_reducible refine Rl.R.isNb ?_
  | with_reducible refine Rl.R.isNs ?_
  | with_reducible refine Rl.R.notNb ?_
  | with_reducible refine Rl.R.notNs ?_
  | with_reducible refine Rl.R.eqS ?_
  | with_reducible refine Rl.R.notNr ?_
  | with_reducible refine Rl.R.notNn ?_
  | with_reducible refine Rl.R.notNi ?_
  | with_reducible refine Rl.R.isNr ?_
  | with_reducible refine Rl.R.isNn ?_
  | with_reducible refine Rl.R.isNi ?_
  | with_reducible refine Rl.R.intI ?_
  | with_reducible refine Rl.R.intB ?_
  | with_reducible refine Rl.R.neI ?_
  | with_reducible refine Rl.R.neS ?_
  | with_reducible refine Rl.R.eqB ?_
  | with_reducible refine Rl.R.neB ?_
  | with_reducible refine Rl.R.and3 ?_
  | with_reducible refine Rl.R.shr4 ?_
  | with_reducible refine Rl.R.shr2 ?_
  | with_reducible refine Rl.R.orI ?_
  | with_reducible refine Rl.R.xorI ?_
  | with_reducible refine Rl.R.ifE ?_
  | with_reducible refine Rl.R.par ?_
  | with_reducible refine Rl.R.par3 ?_
  | with_reducible refine Rl.R.ex2 ?_
  | with_reducible refine Rl.R.ex3 ?_
  | with_reducible refine Rl.R.not' ?_
  | with_reducible refine Rl.R.iNot ?_
  | with_reducible refine Rl.R.sl ?_
  | with_reducible refine Rl.R.noPart ?_
  | with_reducible refine Rl.R.part ?_
  | with_reducible refine Rl.R.exI ?_
  | with_reducible refine Rl.R.abs' ?_
  | with_reducible refine Rl.R.min2 ?_
  | with_reducible refine Rl.R.max2 ?_
  | with_reducible refine Rl.R.drop ?_
  | with_reducible refine Rl.R.retN ?_
  | with_reducible refine Rl.R.gSub ?_
  | with_reducible refine Rl.R.for' ?_
  | with_reducible refine Rl.R.seqIter ?_
  | with_reducible refine Rl.R.rng1 ?_
  | with_reducible refine Rl.R.rng2 ?_
  | with_reducible refine Rl.R.aug ?_
  | with_reducible refine Rl.R.ipA ?_
  | with_reducible refine Rl.R.un ?_
  | with_reducible refine Rl.R.neg ?_
  | with_reducible refine Rl.R.tru ?_
  | with_reducible refine Rl.R.yes ?_
  | with_reducible refine Rl.R.andV ?_
  | with_reducible refine Rl.R.orV ?_
  | with_reducible refine Rl.R.notV ?_
  | with_reducible refine Rl.R.isN ?_
  | with_reducible refine Rl.R.notN ?_
  | ((with_reducible refine Rl.R.and15 ?_ ?_); (focus (k_caughtB)))
  | with_reducible refine Rl.R.andI ?_
  | ((with_reducible refine Rl.R.modI ?_ ?_); (focus (k_caughtB)))
  | ((with_reducible refine Rl.R.shrI ?_ ?_); (focus (k_caughtB)))
  | ((with_reducible apply Rl.R.inKDi); (focus assumption))
  | ((with_reducible apply Rl.R.inKDs); (focus assumption))
  | ((with_reducible apply Rl.R.isiD); (focus (lcg_src; done)); (focus (first | exact (rfl : _ = some false) | exact (rfl : _ = some true))))
  | ((with_reducible apply Rl.R.lenLI); (focus (lcg_src; done)))
  | ((with_reducible apply Rl.R.lenTI); (focus (lcg_src; done)))
  | ((with_reducible apply Rl.R.lenL); (focus (lcg_src; done)))
  | ((with_reducible apply Rl.R.lenT); (focus (lcg_src; done)))
  | ((with_reducible apply Rl.R.lenC); (focus (lcg_src; done)))
  | ((with_reducible apply Rl.R.setL); (focus (lcg_sub; done)); (focus (exact rfl)))
  | ((with_reducible apply Rl.R.ixT0); (focus (lcg_src; done)))
  | ((with_reducible apply Rl.R.ixT1); (focus (lcg_src; done)))
  | ((with_reducible apply Rl.R.ixL0); (focus (lcg_src; done)))
  | ((with_reducible apply Rl.R.ixL1); (focus (lcg_src; done)))
  | ((with_reducible apply Rl.R.ixL); (focus (lcg_src; done)); (focus (exact rfl)))
  | ((with_reducible apply Rl.R.ixT); (focus (lcg_src; done)); (focus (exact rfl)))
  | ((with_reducible refine Rl.R.powI ?_ ?_); (focus (exact Rl.R.cpow (by decide))))
  | ((with_reducible refine Rl.R.mulI ?_ ?_); (focus (k_clsL; done)))
  | ((with_reducible refine Rl.R.divI ?_ ?_); (focus (k_offL; done)))
  | ((with_reducible apply Rl.R.andB); (focus (intro QB h; k_caught0; exact h)); (focus (intro hb QB h; k_caught0; exact h)))
  | ((with_reducible apply Rl.R.orB); (focus (intro QB h; k_caught0; exact h)); (focus (intro hb QB h; k_caught0; exact h)))
  | ((with_reducible apply Rl.R.chainB); (focus (intro Q h; k_caught0; exact h)); (focus (intro Q h; k_caught0; exact h)); (focus (intro Q h; k_caught0; exact h)); (focus (intro hb Q h; k_caught0; exact h)); (focus (intro hb Q h; k_caught0; exact h)))))
namespace Rl
open PySem PySem.Spec PyProof.Rows L2
section
variable {K : PySem.W.Frag} {w : World}
theorem len_short_row {vs : List V} {H : Hp} {Q : VK} {E : XK} (h : sp_short_row K w vs H Q E) : vs.length = 1 := by
  obtain ⟨b, rfl, _⟩ := h
  rfl
theorem atI_alone {i : Int} (h0 : 0 ≤ i) (h3 : i < 3) : atI ([.str "halt", .str "back", .str "rest"] : List V) i = some (.str (alone i)) := by
  obtain rfl | rfl | rfl : i = 0 ∨ i = 1 ∨ i = 2 := by omega
  all_goals rfl
theorem atI_single {i : Int} (h0 : 0 ≤ i) (h3 : i < 4) : atI ([.str "in", .str "out", .str "keep", .str "take"] : List V) i = some (.str (single i)) := by
  obtain rfl | rfl | rfl | rfl : i = 0 ∨ i = 1 ∨ i = 2 ∨ i = 3 := by omega
  all_goals rfl
theorem atI_target {i : Int} (h0 : 0 ≤ i) (h3 : i < 6) : atI ([.str "go", .str "zero", .str "nonzero", .str "less", .str "notless", .str "call"] : List V) i = some (.str (target i)) := by
  obtain rfl | rfl | rfl | rfl | rfl | rfl : i = 0 ∨ i = 1 ∨ i = 2 ∨ i = 3 ∨ i = 4 ∨ i = 5 := by omega
  all_goals rfl
theorem dec_alone {b : Int} (h : b < 3) : dec b = some (alone b, .e) := by
  unfold dec
  exact if_pos h
theorem dec_single {b : Int} (h : ¬ b < 3) (h2 : b / 16 = 15) : dec b = some (single (b % 4), .r) := by
  unfold dec
  rw [if_neg h, if_pos h2]
theorem dec_pair {b : Int} {z : Str} (h : ¬ b < 3) (h2 : ¬ b / 16 = 15) (h3 : pairT.lookup (b / 16) = some z) : dec b = some (z, .rs) := by
  unfold dec
  rw [if_neg h, if_neg h2, h3]
theorem dec_rest {b : Int} (h : ¬ b < 3) (h2 : ¬ b / 16 = 15) (h3 : pairT.lookup (b / 16) = none) : dec b = if b / 16 = 14 ∧ b % 16 < 6 then some (target (b % 16), .n) else match numT.lookup (b / 16) with
        | some w => if b % 4 = 0 then some (w, .rn) else none
        | none => none := by
  unfold dec
  rw [if_neg h, if_neg h2, h3]
  all_goals rfl
theorem pure_short_row (F : MachC K w) {vs : List V} {H : Hp} {Q : VK} {E : XK} (h : sp_short_row K w vs H Q E) : t_short_row K w { nx := fun _ H' => Q .non H', rt := Q } (start N_short_row vs) H := by
  obtain ⟨b, rfl, h0, h1, q⟩ := h
  unfold t_short_row
  k_caught0
  refine R.ixS (by decide) (atI_abcd (by omega) (by omega)) ?_
  have hA := F.alone H
  k_caught0
  refine R.iD (fun hb => ?_) (fun hb => ?_)
  · have hb3 : b < 3 := hb
    k_caught0
    refine R.ixT hA (atI_alone h0 hb3) ?_
    k_caught0
    refine ⟨by k_caughtN0, fun p hp => q _ _ (same_upd hp) ?_⟩
    have e : optD (if isLong b = true then none else rowD b 0) = .tuple [.str (alone b)] := by
      unfold isLong rowD
      rw [dec_alone hb3]
      rfl
    rw [e]
    exact .tup (SqT.of upd_same) (.cons (.str _) .nil)
  · have hb3 : ¬ b < 3 := hb
    k_caught0
    refine R.iD (fun hk => ?_) (fun hk => ?_)
    · k_caught0
      refine R.ixT (F.single H) (atI_single (by omega) (by omega)) ?_
      k_caught0
      refine ⟨by k_caughtN0, fun p hp => q _ _ (same_upd hp) ?_⟩
      have e : optD (if isLong b = true then none else rowD b 0) = .tuple [.str (single (b % 4)), .str (boxR b)] := by
        unfold isLong rowD
        rw [dec_single hb3 hk]
        rfl
      rw [e]
      exact .tup (SqT.of upd_same) (.cons (.str _) (.cons (.str _) .nil))
    · k_caught0
      have hP := F.pairs
      k_caught0
      rw [R.valV_ints (f := V.str)]
      cases hp : pairT.lookup (b / 16) with
      | some z =>
        k_caught0
        refine R.iT ?_
        k_caught0
        refine R.ixKDi F.pairs (by rw [R.valV_ints (f := V.str), hp]; rfl) ?_
        k_caught0
        refine R.ixS (by decide) (atI_abcd (by omega) (by omega)) ?_
        k_caught0
        refine ⟨by k_caughtN0, fun p hp' => q _ _ (same_upd hp') ?_⟩
        have e : optD (if isLong b = true then none else rowD b 0) = .tuple [.str z, .str (boxR b), .str (boxS b)] := by
          unfold isLong rowD
          rw [dec_pair hb3 hk hp]
          rfl
        rw [e]
        exact .tup (SqT.of upd_same) (.cons (.str _) (.cons (.str _) (.cons (.str _) .nil)))
      | none =>
        refine R.iF ?_
        k_caught0
        refine q _ _ (Same.refl _) ?_
        have hd := dec_rest hb3 hk hp
        have e : optD (if isLong b = true then none else rowD b 0) = .none := by
          by_cases h14 : b / 16 = 14 ∧ b % 16 < 6
          · rw [if_pos h14] at hd
            unfold isLong rowD
            rw [hd]
            rfl
          · rw [if_neg h14] at hd
            cases hn : numT.lookup (b / 16) with
            | none =>
              rw [hn] at hd
              unfold isLong rowD
              rw [hd]
              rfl
            | some z =>
              rw [hn] at hd
              by_cases h4 : b % 4 = 0
              · have hd2 : dec b = some (z, .rn) := by
                  rw [hd]
                  exact if_pos h4
                unfold isLong rowD
                rw [hd2]
                rfl
              · have hd2 : dec b = none := by
                  rw [hd]
                  exact if_neg h4
                unfold isLong rowD
                rw [hd2]
                rfl
        rw [e]
        exact .non
theorem len_long_row {vs : List V} {H : Hp} {Q : VK} {E : XK} (h : sp_long_row K w vs H Q E) : vs.length = 2 := by
  obtain ⟨b, n, rfl, _⟩ := h
  rfl
theorem dec_n {b : Int} (h0 : 0 ≤ b) (h : b / 16 = 14) (h2 : b % 16 < 6) : dec b = some (target (b % 16), .n) := by
  rw [dec_rest (by omega) (by omega) (by rw [h]; rfl), if_pos ⟨h, h2⟩]
theorem num_pair {k : Int} {z : Str} (h : numT.lookup k = some z) : pairT.lookup k = none ∧ k ≠ 15 ∧ k ≠ 14 ∧ 1 ≤ k := by
  unfold numT at h
  simp only [List.lookup_cons] at h
  split at h
  · rename_i q
    rw [beq_iff_eq.mp q]
    exact ⟨rfl, by decide, by decide, by decide⟩
  · split at h
    · rename_i q
      rw [beq_iff_eq.mp q]
      exact ⟨rfl, by decide, by decide, by decide⟩
    · split at h
      · rename_i q
        rw [beq_iff_eq.mp q]
        exact ⟨rfl, by decide, by decide, by decide⟩
      · split at h
        · rename_i q
          rw [beq_iff_eq.mp q]
          exact ⟨rfl, by decide, by decide, by decide⟩
        · cases h
theorem dec_rn {b : Int} {z : Str} (h : numT.lookup (b / 16) = some z) (h2 : b % 4 = 0) : dec b = some (z, .rn) := by
  obtain ⟨p1, p2, p3, p4⟩ := num_pair h
  rw [dec_rest (by omega) p2 p1, if_neg (fun q => p3 q.1), h]
  exact if_pos h2
/-- what is no long row -/
theorem not_long {b n : Int} (h1 : ¬ (b / 16 = 14 ∧ b % 16 < 6)) (h2 : ∀ z, numT.lookup (b / 16) = some z → ¬ b % 4 = 0) : optD (if isLong b = true then rowD b n else none) = .none := by
  have e : isLong b = false := by
    unfold isLong
    by_cases a : b < 3
    · rw [dec_alone a]
    · by_cases c : b / 16 = 15
      · rw [dec_single a c]
      · cases hp : pairT.lookup (b / 16) with
        | some z => rw [dec_pair a c hp]
        | none =>
          rw [dec_rest a c hp, if_neg h1]
          cases hn : numT.lookup (b / 16) with
          | none => rfl
          | some z =>
            dsimp only
            rw [if_neg (h2 z hn)]
  rw [e]
  rfl
theorem pure_long_row (F : MachC K w) {vs : List V} {H : Hp} {Q : VK} {E : XK} (h : sp_long_row K w vs H Q E) : t_long_row K w { nx := fun _ H' => Q .non H', rt := Q } (start N_long_row vs) H := by
  obtain ⟨b, n, rfl, h0, h1, q⟩ := h
  unfold t_long_row
  k_caught0
  refine R.ixS (by decide) (atI_abcd (by omega) (by omega)) ?_
  have hA := F.targets H
  k_caught0
  refine R.iAnd (fun h14 hl => ?_) (fun hno => ?_)
  · have hl6 : b % 16 < 6 := hl
    k_caught0
    refine R.ixT hA (atI_target (by omega) hl6) ?_
    k_caught0
    refine ⟨by k_caughtN0, fun p hp => q _ _ (same_upd hp) ?_⟩
    have e : optD (if isLong b = true then rowD b n else none) = .tuple [.str (target (b % 16)), .int n] := by
      unfold isLong rowD
      rw [dec_n h0 h14 hl6]
      rfl
    rw [e]
    exact .tup (SqT.of upd_same) (.cons (.str _) (.cons (.int _) .nil))
  · have hno' : ¬ (b / 16 = 14 ∧ b % 16 < 6) := hno
    have hN := F.nums
    k_caught0
    rw [R.valV_ints (f := V.str)]
    cases hn : numT.lookup (b / 16) with
    | some z =>
      refine R.iB (fun h4 => ?_) (fun h4 => ?_)
      · have h4' : b % 16 % 4 = 0 := of_decide_eq_true h4
        k_caught0
        refine R.ixKDi hN (by rw [R.valV_ints (f := V.str), hn]; rfl) ?_
        k_caught0
        refine ⟨by k_caughtN0, fun p hp => q _ _ (same_upd hp) ?_⟩
        have e : optD (if isLong b = true then rowD b n else none) = .tuple [.str z, .str (boxR b), .int n] := by
          unfold isLong rowD
          rw [dec_rn hn (by omega)]
          rfl
        rw [e]
        exact .tup (SqT.of upd_same) (.cons (.str _) (.cons (.str _) (.cons (.int _) .nil)))
      · have h4' : ¬ b % 16 % 4 = 0 := of_decide_eq_false h4
        k_caught0
        refine q _ _ (Same.refl _) ?_
        rw [not_long hno' fun _ _ => by omega]
        exact .non
    | none =>
      refine R.iF ?_
      k_caught0
      refine q _ _ (Same.refl _) ?_
      rw [not_long hno' fun z hz => by rw [hn] at hz; cases hz]
      exact .non
theorem len_row_at {vs : List V} {H : Hp} {Q : VK} {E : XK} (h : sp_row_at K w vs H Q E) : vs.length = 2 := by
  obtain ⟨c, ns, a, rfl, _⟩ := h
  rfl
theorem pure_row_at (F : MachC K w) {vs : List V} {H : Hp} {Q : VK} {E : XK} (h : sp_row_at K w vs H Q E) : t_row_at K w { nx := fun _ H' => Q .non H', rt := Q } (start N_row_at vs) H := by
  obtain ⟨c, ns, a, rfl, hc, hb, q⟩ := h
  unfold t_row_at
  k_caught0
  refine R.iAnd (fun h0 h1 => ?_) (fun hno => ?_)
  · have hat : rowAt ns a = (if isLong (ns.getD a.toNat 0) = true then (if a + 1 < ns.length then (rowD (ns.getD a.toNat 0) (ns.getD (a.toNat + 1) 0)).map fun l => (l, 2) else none)
      else (rowD (ns.getD a.toNat 0) 0).map fun l => (l, 1)) := by
      unfold rowAt
      exact if_pos ⟨h0, h1⟩
    k_caught0
    refine R.ixC hc h0 h1 ?_
    intro m hm hmem
    have hgd : ns.getD a.toNat 0 = m := by
      rw [List.getD_eq_getElem?_getD, hm]
      rfl
    rw [hgd] at hat
    k_caught0
    refine ⟨m, rfl, (hb m hmem).1, (hb m hmem).2, fun v H1 e1 hd1 => ?_⟩
    cases hs : (if isLong m = true then none else rowD m 0) with
    | some l =>
      rw [hs] at hd1
      have hL : isLong m = false := by
        cases q : isLong m with
        | false => rfl
        | true =>
          rw [q, if_pos rfl] at hs
          cases hs
      rw [hL, if_neg Bool.false_ne_true] at hs hat
      rw [hs] at hat
      obtain ⟨p1, xs, rfl, hx, ha⟩ := dp_tup hd1
      k_caught0
      refine ⟨by k_caughtN0, fun p hp => q _ _ (e1.trans (same_upd hp)) ?_⟩
      rw [hat]
      exact .tup (SqT.of upd_same) (.cons (Dp.mono (same_upd hp) hd1) (.cons (.int _) .nil))
    | none =>
      rw [hs] at hd1
      cases dp_none hd1
      k_caught0
      refine R.iD (fun h2 => ?_) (fun h2 => ?_)
      · k_caught0
        refine R.ixC (Code.mono e1 hc) h0 h1 ?_
        intro m' hm' _
        have em : m' = m := Option.some.inj (hm'.symm.trans hm)
        subst em
        k_caught0
        refine R.ixC (Code.mono e1 hc) (by omega) h2 ?_
        intro n hn hnm
        k_caught0
        refine ⟨m', n, rfl, (hb m' hmem).1, (hb m' hmem).2, fun v H2 e2 hd2 => ?_⟩
        have hgn : ns.getD (a.toNat + 1) 0 = n := by
          have ei : (a + 1).toNat = a.toNat + 1 := by omega
          rw [List.getD_eq_getElem?_getD, ← ei, hn]
          rfl
        rw [hgn, if_pos h2] at hat
        cases hl : isLong m' with
        | true =>
          rw [hl, if_pos rfl] at hd2 hat
          cases hr : rowD m' n with
          | none =>
            rw [hr] at hd2 hat
            cases dp_none hd2
            k_caught0
            refine q _ _ (e1.trans e2) ?_
            rw [hat]
            exact .non
          | some l =>
            rw [hr] at hd2 hat
            obtain ⟨p1, xs, rfl, hx, ha⟩ := dp_tup hd2
            k_caught0
            refine ⟨by k_caughtN0, fun p hp => q _ _ ((e1.trans e2).trans (same_upd hp)) ?_⟩
            rw [hat]
            exact .tup (SqT.of upd_same) (.cons (Dp.mono (same_upd hp) hd2) (.cons (.int _) .nil))
        | false =>
          rw [hl, if_neg Bool.false_ne_true] at hd2 hat hs
          cases dp_none hd2
          k_caught0
          refine q _ _ (e1.trans e2) ?_
          rw [hat, hs]
          exact .non
      · k_caught0
        refine q _ _ e1 ?_
        have e : rowAt ns a = none := by
          rw [hat]
          cases hl : isLong m with
          | true => rw [if_pos rfl, if_neg h2]
          | false =>
            rw [hl, if_neg Bool.false_ne_true] at hs
            rw [if_neg Bool.false_ne_true, hs]
            rfl
        rw [e]
        exact .non
  · k_caught0
    refine q _ _ (Same.refl _) ?_
    unfold rowAt
    rw [if_neg hno]
    exact .non
end
end Rl
namespace Rl
open PySem PySem.Spec PyProof.Rows L2
section
variable {K : PySem.W.Frag} {w : World}
theorem fx_mut {r : Addr} {H : Hp} {o : HO} : Fx r H (upd H r o) := sm_bmut (Same.refl _)
theorem pure_law_draw {F : Prop} (_ : F) {vs : List V} {H : Hp} {Q : VK} {E : XK} (h : sp_law_draw K w vs H Q E) : t_law_draw K w { nx := fun _ H' => Q .non H', rt := Q } (start N_law_draw vs) H := by
  obtain ⟨r, m, rfl, ⟨a, b, c, g, a0, b0, b1⟩, m0, m1, q⟩ := h
  unfold t_law_draw
  k_caught0
  refine R.iD (fun h0 => ?_) (fun h0 => ?_)
  · k_caught0
    exact q _ _ fx_mut ⟨a / m, b, c, upd_same, Int.ediv_nonneg a0 (Int.le_of_lt m0), b0, b1⟩ (Int.emod_nonneg _ (by omega)) (Int.emod_lt_of_pos _ m0)
  · k_caught0
    generalize hz : (b * b % 2305843009213693951 + 7919 * (c + 1) * b + 104729) % 2305843009213693951 = z
    have z0 : 0 ≤ z := by rw [← hz]; exact Int.emod_nonneg _ (by decide)
    have z1 : z < 2305843009213693951 := by rw [← hz]; exact Int.emod_lt_of_pos _ (by decide)
    exact q _ _ (fx_mut.trans fx_mut) ⟨a, z, c + 1, upd_same, a0, z0, z1⟩ (Int.emod_nonneg _ (by omega)) (Int.emod_lt_of_pos _ m0)
theorem log_lt {n : Nat} {k : Nat} (h : n < 2 ^ k) : n.log2 < k + 1 := by
  cases n with
  | zero =>
    show Nat.log2 0 < k + 1
    rw [Nat.log2_zero]
    omega
  | succ n => exact Nat.lt_succ_of_lt ((Nat.log2_lt (Nat.succ_ne_zero n)).mpr h)
/-- ten to the sixtieth, i times -/
def tenP (i : Nat) : Nat := 10 ^ (60 * i)
theorem tenP_up (i : Nat) : tenP i ≤ tenP (i + 1) := Nat.pow_le_pow_right (by decide) (by omega)
theorem tenP_succ (i : Nat) : tenP (i + 1) = tenP i * tenP 1 := by
  unfold tenP
  rw [Nat.mul_add, Nat.pow_add]
theorem tenP_log {n i : Nat} (h : n < tenP i) : n.log2 < 4 * (60 * i) + 1 := by
  refine log_lt (Nat.lt_of_lt_of_le h ?_)
  unfold tenP
  rw [Nat.pow_mul 2 4]
  exact Nat.pow_le_pow_left (by decide) _
theorem tenP_one : (10 : Int) ^ (60 : Int).toNat = (tenP 1 : Int) := by decide +kernel
theorem tenP_one_log : ((tenP 1 : Nat) : Int).natAbs.log2 < 1000 := by decide +kernel
theorem tenP_pos : (0 : Int) < (tenP 1 : Int) := by decide +kernel
theorem pure_law_spring {F : Prop} (_ : F) {vs : List V} {H : Hp} {Q : VK} {E : XK} (h : sp_law_spring K w vs H Q E) : t_law_spring K w { nx := fun _ H' => Q .non H', rt := Q } (start N_law_spring vs) H := by
  obtain ⟨s, ns, rfl, hs, hl, q⟩ := h
  unfold t_law_spring
  refine R.seq (R.asg (R.c (R.gName ?_)))
  refine R.seq (R.asg (R.c (R.gName ?_)))
  refine R.seq (R.for' (R.seqIter (R.sl (R.var (R.noPart (R.part (R.c (R.exI ?_)))))))) 
  refine R.slToI hs (by decide) fun l hl2 => ?_
  have s1 : Same H (upd H l (.lst ((ns.take (63 : Int).toNat).map V.int))) := same_upd hl2
  have gl : (upd H l (.lst ((ns.take (63 : Int).toNat).map V.int))) l = some (.lst ((ns.take (63 : Int).toNat).map V.int)) := upd_same
  generalize upd H l (.lst ((ns.take (63 : Int).toNat).map V.int)) = H1 at s1 gl ⊢
  have ht : (ns.take (63 : Int).toNat).length ≤ 63 := by
    rw [List.length_take]
    omega
  refine R.forLI (ns := ns.take (63 : Int).toNat) (fun i σ H' => ∃ (f st : Int) (x : Option V), σ = [some (.ref s), some (.int f), some (.int st), x] ∧ Same H1 H' ∧ 0 ≤ f ∧ f < (tenP i : Int) ∧ 0 ≤ st ∧ st < 2305843009213693951) (SqL.of gl)
    ⟨0, 88651, _, rfl, Same.refl _, Int.le_refl _, by decide, by decide, by decide⟩ (fun i σ H' _ z => by
      obtain ⟨_, _, _, _, z, _⟩ := z
      exact SqL.of (z _ _ gl)) ?_ ?_
  · rintro i c σ H' _ _ hi ⟨f, st, x, rfl, sH, f0, f1, st0, st1⟩
    have i63 : i < 63 := by omega
    refine R.gName ?_
    have up := tenP_up i
    have e60 := tenP_succ i
    refine R.seq (R.joinS (fun σ H' => ∃ f2 : Int, σ = [some (.ref s), some (.int f2), some (.int st), some (.int c)] ∧ Same H1 H' ∧ 0 ≤ f2 ∧ f2 < (tenP (i + 1) : Int)) ?_ fun N key => ?_)
    · rintro σ H2 ⟨f2, rfl, s2, h0, h1⟩
      refine R.asg (R.op (R.op (R.op (R.op (R.var (R.c (R.mulI (R.cmul2 (by decide) (by decide)) ?_)))))))
      refine R.op (R.var (R.c (R.modI (by decide) ?_)))
      refine R.addI (R.c (R.addI (R.c (R.modI (by decide) (R.gName ?_)))))
      exact ⟨f2, _, _, rfl, s2, h0, h1, Int.emod_nonneg _ (by decide), Int.emod_lt_of_pos _ (by decide)⟩
    · refine R.ifS (R.test (R.op (R.cb (R.cons (R.var (R.nil (R.abs' ?_)))))))
      refine R.op (R.c (R.c (R.powI (R.cpow (by decide)) (R.geI (R.bl ?_)))))
      generalize hab : (if c < 0 then -c else c) = ab
      refine R.iD (fun hg => ?_) (fun hg => R.next (key _ _ ⟨f, rfl, sH, f0, by omega⟩))
      refine R.asg (R.op (R.op (R.var (R.op (R.c (R.c (R.powI (R.cpow (by decide)) ?_)))))))
      rw [tenP_one]
      refine R.mulI (.inr ?_) ?_
      · show f.natAbs.log2 + ((tenP 1 : Nat) : Int).natAbs.log2 < 1000000
        have h1 : f.natAbs < tenP i := by omega
        have h2 := tenP_log h1
        have h3 := tenP_one_log
        omega
      refine R.op (R.cb (R.cons (R.var (R.nil (R.abs' ?_)))))
      refine R.op (R.c (R.c (R.powI (R.cpow (by decide)) ?_)))
      rw [hab, tenP_one]
      refine R.modI tenP_pos (R.addI (R.gName ?_))
      have q60 := tenP_pos
      generalize tenP 1 = P at e60 q60 ⊢
      have r0 := Int.emod_nonneg ab (Int.ne_of_gt q60)
      have r1 := Int.emod_lt_of_pos ab q60
      refine key _ _ ⟨_, rfl, sH, Int.add_nonneg (Int.mul_nonneg f0 (Int.le_of_lt q60)) r0, ?_⟩
      rw [e60, Int.natCast_mul]
      have m1 : (f + 1) * (P : Int) ≤ (tenP i : Int) * (P : Int) := Int.mul_le_mul_of_nonneg_right (by omega) (Int.le_of_lt q60)
      rw [Int.add_mul, Int.one_mul] at m1
      exact Int.lt_of_lt_of_le (Int.add_lt_add_left r1 _) m1
  · rintro σ H' ⟨f, st, x, rfl, sH, f0, f1, st0, st1⟩
    refine R.ret (R.lst (R.cons (R.var (R.cons (R.var (R.cons (R.c (R.nil ⟨by k_caughtN0, fun r hr => ?_⟩))))))))
    exact q r _ (s1.trans (sH.trans (same_upd hr))) (s1.free (sH.free hr)) ⟨f, st, 0, upd_same, f0, st0, st1⟩
end
end Rl
namespace Rl
open PySem PySem.Spec PyProof.Rows L2
/-! ## `_law_tree` -/
def turnT : Nat → Nat
  | 0 => 2
  | n + 1 => 6 + 2 * wT n
theorem wT_turn (n : Nat) : wT n = 4 * turnT n := by cases n <;> rfl
section
variable {K : PySem.W.Frag} {w : World} {vs : List V} {H : Hp} {Q : VK} {E : XK} {n : Nat}
theorem Tr.parts_le : ∀ (t : Tr), t.Ok → t.data.length ≤ 2 * t.len
  | .nil, _ => Nat.le_refl _
  | .row bs r, h => by
    have := Tr.parts_le r h.2
    have := (six_by h.1).2.1
    simp only [Tr.data, Tr.len, List.length_cons]
    omega
  | .ite bs a b r, h => by
    have := Tr.parts_le r h.2.2.2.2
    have := (six_by h.1).2.1
    simp only [Tr.data, Tr.len, List.length_cons]
    omega
  | .loop bs a b r, h => by
    have := Tr.parts_le r h.2.2.2.2.2
    have := (six_by h.1).2.1
    simp only [Tr.data, Tr.len, List.length_cons]
    omega
theorem wT_small {n : Nat} (h : n ≤ 3) : wT n ≤ 5848 := by
  match n, h with
  | 0, _ => decide
  | 1, _ => decide
  | 2, _ => decide
  | 3, _ => decide
/-- the loop's own -/
structure TrL (K : PySem.W.Frag) (H H1 H' : Hp) (r D : Addr) (t : Tr) (dp k : Nat) : Prop where
  f : Fx r H H'
  S : Spr H' r
  al : Alv H1 H'
  g : ∃ xs, H' D = some (.lst xs) ∧ DxAll (nwH H1 H') xs t.data
  ok : t.Ok
  dp_ : t.deep ≤ dp
  ln : t.len ≤ k
theorem TrL.put {H1 H2 H' : Hp} {r D : Addr} {t u : Tr} {dp k k' : Nat} {v : V} {d : PyData} (L : TrL K H H1 H' r D t dp k) (f : Fx r H' H2) (S2 : Spr H2 r) (hr : ∃ o, H1 r = some o) (hD : ∃ o, H1 D = some o) (hD0 : H D = none) (nD : D ≠ r) (dv : Dx (nwH H1 H2) v d) (hd : u.data = t.data ++ [d]) (ok : u.Ok) (hdp : u.deep ≤ dp) (hl : u.len ≤ k') (hk : k' ≤ 5848)
    {QA : VK} (q : ∀ H3, TrL K H H1 H3 r D u dp k' → QA .non H3) : rAppend (.ref D) [v] H2 QA := by
  obtain ⟨xs, gD, da⟩ := L.g
  have g2 := f.at nD gD
  have lx : xs.length ≤ 2 * k' := by
    have h1 := DxAll.length da
    have h2 := Tr.parts_le u ok
    rw [hd, List.length_append] at h2
    rw [h1]
    have : t.data.length + 1 ≤ 2 * u.len := h2
    omega
  refine R.append g2 (Nat.lt_of_le_of_lt (m := 11696) (by omega) (by decide)) (q _ ⟨Fx.mutN hD0 (L.f.trans f), S2.mut nD, (L.al.fx f S2).mut, ⟨_, upd_same, ?_⟩, ok, hdp, hl⟩)
  rw [nw_mut hD, hd]
  exact DxAll.app (DxAll.mono (nw_fx hr f) da) (.cons dv .nil)
theorem TrL.fx {H1 H2 H' : Hp} {r D : Addr} {t : Tr} {dp k : Nat} (L : TrL K H H1 H' r D t dp k) (f : Fx r H' H2) (S2 : Spr H2 r) (hr : ∃ o, H1 r = some o) (nD : D ≠ r) : TrL K H H1 H2 r D t dp k := by
  obtain ⟨xs, gD, da⟩ := L.g
  exact ⟨L.f.trans f, S2, L.al.fx f S2, ⟨xs, f.at nD gD, DxAll.mono (nw_fx hr f) da⟩, L.ok, L.dp_, L.ln⟩
theorem TrL.tyL {H1 H' : Hp} {r D : Addr} {t : Tr} {dp k : Nat} {A : Prop} (L : TrL K H H1 H' r D t dp k) (q : A) : tyV K "list" (.ref D) H' ∧ A := by
  obtain ⟨xs, gD, da⟩ := L.g
  exact R.tyL gD q
section
variable {r : Addr} {H0 : Hp} {σ : L2.St} {te : TE} {tr : TA} {P : PyData → Prop}
theorem Nt.lit1 {a : Int} (hr : ∃ o, H0 r = some o) : Nt K r H0 (tLst (tCons (tC (.int a)) tNil)) σ (· = .list (([a] : List Int).map PyData.int)) := (Nt.lst (NtA.cons hr Nt.int NtA.nil) fun ds ⟨_, _, e, _, e2⟩ => by
  rw [e, e2]
  exact Nat.le_of_ble_eq_true rfl).imp fun d ⟨ds, e, _, _, e2, e3, e4⟩ => by
    rw [e, e2, e3, e4]
    rfl
theorem Nt.lit2 {a b : Int} (hr : ∃ o, H0 r = some o) : Nt K r H0 (tLst (tCons (tC (.int a)) (tCons (tC (.int b)) tNil))) σ (· = .list (([a, b] : List Int).map PyData.int)) := (Nt.lst (NtA.cons hr Nt.int (NtA.cons hr Nt.int NtA.nil)) fun ds ⟨_, _, e, _, _, _, e2, _, e3⟩ => by
  rw [e, e2, e3]
  exact Nat.le_of_ble_eq_true rfl).imp fun d ⟨ds, e, _, _, e2, e3, _, _, e4, e5, e6⟩ => by
    rw [e, e2, e3, e4, e5, e6]
    rfl
/-- all of a kind -/
def AllN (N : Nat) (P : PyData → Prop) (ds : List PyData) : Prop := ds.length = N ∧ ∀ d ∈ ds, P d
theorem NtA.nilA : NtA K r H0 tNil σ (AllN 0 P) := NtA.nil.imp fun ds e => by
  rw [e]
  exact ⟨rfl, fun _ h => nomatch h⟩
theorem NtA.consA {N : Nat} (hr : ∃ o, H0 r = some o) (h : Nt K r H0 te σ P) (h2 : NtA K r H0 tr σ (AllN N P)) : NtA K r H0 (tCons te tr) σ (AllN (N + 1) P) := (NtA.cons hr h h2).imp fun ds ⟨d, ds', e, p, l, a⟩ => by
  rw [e]
  refine ⟨by rw [List.length_cons, l], fun x hx => ?_⟩
  rcases List.mem_cons.mp hx with rfl | hx
  · exact p
  · exact a x hx
def IsSix (d : PyData) : Prop := ∃ bs ∈ sixB, d = .list (bs.map PyData.int)
theorem Nt.six1 {a : Int} (hr : ∃ o, H0 r = some o) (h : [a] ∈ sixB) : Nt K r H0 (tLst (tCons (tC (.int a)) tNil)) σ IsSix := (Nt.lit1 hr).imp fun _ e => ⟨_, h, e⟩
theorem Nt.six2 {a b : Int} (hr : ∃ o, H0 r = some o) (h : [a, b] ∈ sixB) : Nt K r H0 (tLst (tCons (tC (.int a)) (tCons (tC (.int b)) tNil))) σ IsSix := (Nt.lit2 hr).imp fun _ e => ⟨_, h, e⟩
/-- a row, drawn -/
theorem Nt.rowD (hr : ∃ o, H0 r = some o) (h0 : σ[0]? = some (some (.ref r)) := by with_unfolding_all rfl) : Nt K r H0 (tTup (tCons (tC (.str "row")) (tCons (tOp (rIx K) (tLst (tCons (tLst (tCons (tC (.int 2)) tNil)) (tCons (tLst (tCons (tC (.int 240)) tNil)) (tCons (tLst (tCons (tC (.int 245)) tNil)) (tCons (tLst (tCons (tC (.int 49)) tNil)) (tCons (tLst (tCons (tC (.int 24)) (tCons (tC (.int 7)) tNil))) (tCons (tLst (tCons (tC (.int 130)) tNil)) tNil))))))) (tCall (sp_law_draw K w) [] E0 (tCons (tVar 0) (tCons (tC (.int 6)) tNil)))) tNil))) σ
    fun d => ∃ bs ∈ sixB, d = Tr.rowD bs := by
  have six : NtA K r H0 (tCons (tLst (tCons (tC (.int 2)) tNil)) (tCons (tLst (tCons (tC (.int 240)) tNil)) (tCons (tLst (tCons (tC (.int 245)) tNil)) (tCons (tLst (tCons (tC (.int 49)) tNil)) (tCons (tLst (tCons (tC (.int 24)) (tCons (tC (.int 7)) tNil))) (tCons (tLst (tCons (tC (.int 130)) tNil)) tNil)))))) σ (AllN 6 IsSix) :=
    NtA.consA hr (Nt.six1 hr (by decide)) (NtA.consA hr (Nt.six1 hr (by decide)) (NtA.consA hr (Nt.six1 hr (by decide)) (NtA.consA hr (Nt.six1 hr (by decide)) (NtA.consA hr (Nt.six2 hr (by decide)) (NtA.consA hr (Nt.six1 hr (by decide)) NtA.nilA)))))
  have pick := Nt.ixL hr (PK := fun i => i < 6) (Nt.lst six fun ds h => by rw [h.1]; decide) ((Nt.draw (w := w) h0).imp fun d ⟨j, e, j0, j1⟩ => ⟨j, e, j0, j1⟩) fun ds i h hi => by rw [h.1]; exact hi
  refine (Nt.tup (NtA.cons hr Nt.str (NtA.cons hr pick NtA.nil)) fun ds ⟨_, _, e, _, _, _, e2, _, e3⟩ => by rw [e, e2, e3]; exact Nat.le_of_ble_eq_true rfl).imp fun d ⟨ds, e, _, _, e2, e3, _, _, e4, ⟨xs, h1, h2⟩, e5⟩ => ?_
  obtain ⟨bs, hb, e6⟩ := h1.2 _ h2
  refine ⟨bs, hb, ?_⟩
  rw [e, e2, e3, e4, e5, e6]
  rfl
/-- a tree within -/
theorem Nt.sub {dp : Nat} (dn : dp + 1 ≤ n) (d3 : dp ≤ 3) (h0 : σ[0]? = some (some (.ref r))) (h1 : σ[1]? = some (some (.int ((dp + 1 : Nat) : Int)))) : Nt K r H0 (tCall (spTr K w n) [] E0 (tCons (tVar 0) (tCons (tOp (rSubA) (tVar 1) (tC (.int 1))) tNil))) σ fun d => ∃ t : Tr, d = .list t.data ∧ t.G dp ∧ t.isNil = false := fun H Q S b q => by
  obtain ⟨n, rfl⟩ : ∃ m, n = m + 1 := ⟨n - 1, by omega⟩
  refine R.call (R.cons (R.var (R.cons (R.op (R.var (R.c (R.subI (R.nil ⟨r, dp, ?_, S, by omega, d3, fun v H' t f S' dv g ni => q v H' _ f S' (Dx.mono (fun a o e => ?_) dv) ⟨t, rfl, g, ni⟩⟩))) h1))) h0))
  · rw [show (((dp + 1 : Nat) : Int) - 1) = ((dp : Nat) : Int) by omega]
    rfl
  · obtain ⟨g1, g2⟩ := nw_of e
    exact nw_at (b a g1) g2
end
theorem G_ite {bs : List Int} {a b : Tr} {dp : Nat} (hb : bs ∈ sixB) (ha : a.G dp) (hn : a.isNil = false) (hb2 : b.Ok) (hd : b.deep ≤ dp) (hl : b.len ≤ wT dp) (t : Tr) (ok : t.Ok) (td : t.deep ≤ dp + 1) {k : Nat} (tl : t.len ≤ k) :
    (t.app (.ite bs a b .nil)).Ok ∧ (t.app (.ite bs a b .nil)).deep ≤ dp + 1 ∧ (t.app (.ite bs a b .nil)).len ≤ k + turnT (dp + 1) := by
  have h2 := (six_by hb).2.2
  have h3 := ha.ln
  have h4 := ha.dp
  refine ⟨Tr.app_ok ok ⟨hb, ha.ok, hn, hb2, trivial⟩, Tr.app_deep td ?_, ?_⟩
  · simp only [Tr.deep]
    omega
  · rw [Tr.app_len]
    simp only [Tr.len, turnT]
    split <;> omega
theorem G_loop {bs : List Int} {a b : Tr} {dp : Nat} (hb : bs ∈ sixB) (ha : a.G dp) (hn : a.isNil = false) (hb2 : b.G dp) (hn2 : b.isNil = false) (t : Tr) (ok : t.Ok) (td : t.deep ≤ dp + 1) {k : Nat} (tl : t.len ≤ k) :
    (t.app (.loop bs a b .nil)).Ok ∧ (t.app (.loop bs a b .nil)).deep ≤ dp + 1 ∧ (t.app (.loop bs a b .nil)).len ≤ k + turnT (dp + 1) := by
  have h2 := (six_by hb).2.2
  have h3 := ha.ln
  have h4 := ha.dp
  have h5 := hb2.ln
  have h6 := hb2.dp
  refine ⟨Tr.app_ok ok ⟨hb, ha.ok, hn, hb2.ok, hn2, trivial⟩, Tr.app_deep td ?_, ?_⟩
  · simp only [Tr.deep]
    omega
  · rw [Tr.app_len]
    simp only [Tr.len, turnT]
    omega
theorem pure_law_tree {F : Prop} (_ : F) (h : spTr K w (n + 1) vs H Q E) : t_law_tree K w (spTr K w n) { nx := fun _ H' => Q .non H', rt := Q } (start N_law_tree vs) H := by
  obtain ⟨r, dp, rfl, hS, dn, d3, q⟩ := h
  unfold t_law_tree
  refine R.seq (R.asg (R.lst (R.nil ⟨by k_caughtN0, fun D hD => R.gName ?_⟩)))
  have nD := hS.ne hD
  have s1 := same_upd (o := .lst []) hD
  have S1 := hS.keep s1
  have gD : (upd H D (.lst [])) D = some (.lst []) := upd_same
  generalize upd H D (.lst []) = H1 at s1 S1 gD ⊢
  have hr : ∃ o, H1 r = some o := S1.some
  have hD1 : ∃ o, H1 D = some o := ⟨_, gD⟩
  refine R.seq (R.for' (R.rng1 (R.cons (R.op (R.c (R.call (R.cons (R.var (R.cons (R.c (R.nil ⟨r, 4, rfl, S1, by decide, by decide, fun k H2 f2 S2 k0 k1 => R.addI (R.nil (R.rng1v (by omega) (by omega) ?_))⟩)))))))))))
  have tot : (1 + k).toNat ≤ 4 := by omega
  have wt := wT_turn dp
  have ws := wT_small d3
  refine R.forR (fun i σ H' => ∃ (t : Tr) (v3 v4 : Option V), σ = [some (.ref r), some (.int (dp : Nat)), some (.ref D), v3, v4] ∧ TrL K H H1 H' r D t dp (i * turnT dp) ∧ (1 ≤ i → t.isNil = false)) ⟨.nil, _, _, rfl, ⟨(Same.but s1).trans f2, S2, (Alv.refl H1).fx f2 S2, ⟨[], f2.at nD gD, .nil⟩, trivial, Nat.zero_le _, Nat.zero_le _⟩, fun z => absurd z (by decide)⟩ ?_ ?_
  · rintro i σ H3 hi ⟨t, v3, v4, rfl, L, hn⟩
    have hi4 : i + 1 ≤ 4 := by omega
    have kb : (i + 1) * turnT dp ≤ 5848 := Nat.le_trans (Nat.mul_le_mul_right _ hi4) (by omega)
    have ks : (i + 1) * turnT dp = i * turnT dp + turnT dp := Nat.succ_mul _ _
    refine R.gName (R.seq (R.joinS (fun σ H' => ∃ pk : Int, σ = [some (.ref r), some (.int (dp : Nat)), some (.ref D), some (.int (0 + (i : Nat))), some (.int pk)] ∧ TrL K H H1 H' r D t dp (i * turnT dp) ∧ (dp = 0 → pk = 0)) ?_ fun N key => ?_))
    rotate_left
    · refine R.asg (R.ifE (R.test (R.op (R.var (R.c (R.gtI (R.bl (R.iD (fun h0 => ?_) fun h0 => ?_))))))))
      · refine R.call (R.cons (R.var (R.cons (R.c (R.nil ⟨r, 9, rfl, L.S, by decide, by decide, fun j H4 f4 S4 _ _ => R.gName (key _ _ ⟨j, rfl, L.fx f4 S4 hr nD, fun z => ?_⟩)⟩)))))
        omega
      · exact R.c (R.gName (key _ _ ⟨0, rfl, L, fun _ => rfl⟩))
    clear L
    rintro σ H4 ⟨pk, rfl, L, pk0⟩
    refine R.seq (R.drop (R.bm (R.var (L.tyL (R.cons ((Nt.rowD (w := w) (K := K) (H0 := H1) hr) H4 _ L.S L.al fun v H5 d f5 S5 dv pd => R.nil ?_))))))
    obtain ⟨bs, hb, rfl⟩ := pd
    have b2 := (six_by hb).2.2
    have t2 : 2 ≤ turnT dp := by
      cases dp with
      | zero => exact Nat.le_refl _
      | succ m => simp only [turnT]; omega
    refine L.put (u := t.app (.row bs .nil)) (k' := i * turnT dp + 2) f5 S5 hr hD1 hD nD dv (Tr.app_data ..) (Tr.app_ok L.ok ⟨hb, trivial⟩) (Tr.app_deep L.dp_ (Nat.zero_le _)) (by rw [Tr.app_len]; have := L.ln; simp only [Tr.len]; omega) (by omega) fun H6 L6 => ?_
    have Lt := L
    clear f5 S5 dv
    have plain : ∀ u3, (∃ (t : Tr) (v3 v4 : Option V), [some (V.ref r), some (.int (dp : Nat)), some (.ref D), some (.int (0 + (i : Nat))), u3] = [some (.ref r), some (.int (dp : Nat)), some (.ref D), v3, v4] ∧ TrL K H H1 H6 r D t dp ((i + 1) * turnT dp) ∧ (1 ≤ i + 1 → t.isNil = false)) := fun u3 =>
      ⟨t.app (.row bs .nil), _, _, rfl, ⟨L6.f, L6.S, L6.al, L6.g, L6.ok, L6.dp_, Nat.le_trans L6.ln (by omega)⟩, fun _ => Tr.app_nil rfl⟩
    refine R.ifS (R.orB (b := decide (pk = 3)) (b' := decide (pk = 4)) (fun QB hq => R.test (R.op (R.var (R.c (R.eqI (R.bl hq)))))) (fun _ QB hq => R.test (R.op (R.var (R.c (R.eqI (R.bl hq)))))) (R.iB (fun hb3 => ?_) (fun hb3 => ?_)))
    · -- an if of one side
      obtain ⟨m, rfl⟩ : ∃ m, dp = m + 1 := by
        cases dp with
        | zero =>
          rw [pk0 rfl] at hb3
          exact absurd hb3 (by decide)
        | succ m => exact ⟨m, rfl⟩
      have cmp : Nt K r H1 (tTup (tCons (tC (.str "if")) (tCons (tCall (spTr K w n) [] E0 (tCons (tVar 0) (tCons (tOp (rSubA) (tVar 1) (tC (.int 1))) tNil))) (tCons (tLst tNil) tNil)))) [some (V.ref r), some (.int ((m + 1 : Nat) : Int)), some (.ref D), some (.int (0 + (i : Nat))), some (.int pk)] fun d => ∃ a : Tr, a.G m ∧ a.isNil = false ∧ d = .tuple [.str "if", .list a.data, .list Tr.nil.data] :=
        (Nt.tup (NtA.cons hr Nt.str (NtA.cons hr (Nt.sub dn (by omega) rfl rfl) (NtA.cons hr (Nt.lst NtA.nil fun ds e => by rw [e]; exact Nat.zero_le _) NtA.nil))) fun ds ⟨_, _, e, _, _, _, e2, _, _, _, e3, _, e4⟩ => by rw [e, e2, e3, e4]; exact Nat.le_of_ble_eq_true rfl).imp fun d ⟨ds, e, _, _, e2, e3, _, _, e4, ⟨a, e5, g, gn⟩, _, _, e6, ⟨_, e7, e8⟩, e9⟩ => ⟨a, g, gn, by rw [e, e2, e3, e4, e5, e6, e7, e8, e9]; rfl⟩
      refine R.drop (R.bm (R.var (L6.tyL (R.cons (cmp H6 _ L6.S L6.al fun v H7 d f7 S7 dv pd => R.nil ?_)))))
      obtain ⟨a, ga, na, rfl⟩ := pd
      obtain ⟨ok, dd, ll⟩ := G_ite (b := .nil) hb ga na trivial (Nat.zero_le _) (Nat.zero_le _) t Lt.ok Lt.dp_ Lt.ln
      exact L6.put (u := t.app (.ite bs a .nil .nil)) (k' := (i + 1) * turnT (m + 1)) f7 S7 hr hD1 hD nD dv (by simp only [Tr.app_data, Tr.data, List.append_assoc, List.cons_append, List.nil_append]) ok dd (by omega) kb fun H8 L8 => ⟨_, _, _, rfl, L8, fun _ => Tr.app_nil rfl⟩
    refine R.ifS (R.test (R.op (R.var (R.c (R.eqI (R.bl (R.iD (fun h5 => ?_) fun h5 => ?_)))))))
    · -- an if of two sides
      obtain ⟨m, rfl⟩ : ∃ m, dp = m + 1 := by
        cases dp with
        | zero =>
          rw [pk0 rfl] at h5
          exact absurd h5 (by decide)
        | succ m => exact ⟨m, rfl⟩
      have cmp : Nt K r H1 (tTup (tCons (tC (.str "if")) (tCons (tCall (spTr K w n) [] E0 (tCons (tVar 0) (tCons (tOp (rSubA) (tVar 1) (tC (.int 1))) tNil))) (tCons (tCall (spTr K w n) [] E0 (tCons (tVar 0) (tCons (tOp (rSubA) (tVar 1) (tC (.int 1))) tNil))) tNil)))) [some (V.ref r), some (.int ((m + 1 : Nat) : Int)), some (.ref D), some (.int (0 + (i : Nat))), some (.int pk)] fun d => ∃ a b : Tr, a.G m ∧ a.isNil = false ∧ b.G m ∧ b.isNil = false ∧ d = .tuple [.str "if", .list a.data, .list b.data] :=
        (Nt.tup (NtA.cons hr Nt.str (NtA.cons hr (Nt.sub dn (by omega) rfl rfl) (NtA.cons hr (Nt.sub dn (by omega) rfl rfl) NtA.nil))) fun ds ⟨_, _, e, _, _, _, e2, _, _, _, e3, _, e4⟩ => by rw [e, e2, e3, e4]; exact Nat.le_of_ble_eq_true rfl).imp fun d ⟨ds, e, _, _, e2, e3, _, _, e4, ⟨a, e5, g, gn⟩, _, _, e6, ⟨b, e7, g2, gn2⟩, e9⟩ => ⟨a, b, g, gn, g2, gn2, by rw [e, e2, e3, e4, e5, e6, e7, e9]⟩
      refine R.drop (R.bm (R.var (L6.tyL (R.cons (cmp H6 _ L6.S L6.al fun v H7 d f7 S7 dv pd => R.nil ?_)))))
      obtain ⟨a, b, ga, na, gb, nb, rfl⟩ := pd
      obtain ⟨ok, dd, ll⟩ := G_ite (b := b) hb ga na gb.ok gb.dp gb.ln t Lt.ok Lt.dp_ Lt.ln
      exact L6.put (u := t.app (.ite bs a b .nil)) (k' := (i + 1) * turnT (m + 1)) f7 S7 hr hD1 hD nD dv (by simp only [Tr.app_data, Tr.data, List.append_assoc, List.cons_append, List.nil_append]) ok dd (by omega) kb fun H8 L8 => ⟨_, _, _, rfl, L8, fun _ => Tr.app_nil rfl⟩
    refine R.ifS (R.test (R.op (R.var (R.c (R.gtI (R.bl (R.iD (fun h6 => ?_) fun h6 => R.next (plain _))))))))
    · -- a loop
      obtain ⟨m, rfl⟩ : ∃ m, dp = m + 1 := by
        cases dp with
        | zero =>
          rw [pk0 rfl] at h6
          exact absurd h6 (by decide)
        | succ m => exact ⟨m, rfl⟩
      have cmp : Nt K r H1 (tTup (tCons (tC (.str "loop")) (tCons (tCall (spTr K w n) [] E0 (tCons (tVar 0) (tCons (tOp (rSubA) (tVar 1) (tC (.int 1))) tNil))) (tCons (tCall (spTr K w n) [] E0 (tCons (tVar 0) (tCons (tOp (rSubA) (tVar 1) (tC (.int 1))) tNil))) tNil)))) [some (V.ref r), some (.int ((m + 1 : Nat) : Int)), some (.ref D), some (.int (0 + (i : Nat))), some (.int pk)] fun d => ∃ a b : Tr, a.G m ∧ a.isNil = false ∧ b.G m ∧ b.isNil = false ∧ d = .tuple [.str "loop", .list a.data, .list b.data] :=
        (Nt.tup (NtA.cons hr Nt.str (NtA.cons hr (Nt.sub dn (by omega) rfl rfl) (NtA.cons hr (Nt.sub dn (by omega) rfl rfl) NtA.nil))) fun ds ⟨_, _, e, _, _, _, e2, _, _, _, e3, _, e4⟩ => by rw [e, e2, e3, e4]; exact Nat.le_of_ble_eq_true rfl).imp fun d ⟨ds, e, _, _, e2, e3, _, _, e4, ⟨a, e5, g, gn⟩, _, _, e6, ⟨b, e7, g2, gn2⟩, e9⟩ => ⟨a, b, g, gn, g2, gn2, by rw [e, e2, e3, e4, e5, e6, e7, e9]⟩
      refine R.drop (R.bm (R.var (L6.tyL (R.cons (cmp H6 _ L6.S L6.al fun v H7 d f7 S7 dv pd => R.nil ?_)))))
      obtain ⟨a, b, ga, na, gb, nb, rfl⟩ := pd
      obtain ⟨ok, dd, ll⟩ := G_loop (b := b) hb ga na gb nb t Lt.ok Lt.dp_ Lt.ln
      exact L6.put (u := t.app (.loop bs a b .nil)) (k' := (i + 1) * turnT (m + 1)) f7 S7 hr hD1 hD nD dv (by simp only [Tr.app_data, Tr.data, List.append_assoc, List.cons_append, List.nil_append]) ok dd (by omega) kb fun H8 L8 => ⟨_, _, _, rfl, L8, fun _ => Tr.app_nil rfl⟩
  · rintro σ H3 ⟨t, v3, v4, rfl, L, hn⟩
    obtain ⟨xs, g3, da⟩ := L.g
    refine R.ret (R.var (q _ _ t L.f L.S (.lst (nw_at hD g3) (DxAll.mono (nw_old s1) da)) ⟨L.ok, L.dp_, ?_⟩ (hn (by omega))))
    rw [wt]
    exact Nat.le_trans L.ln (Nat.mul_le_mul_right _ tot)
end
end Rl
namespace Rl
open PySem PySem.Spec PyProof.Rows L2
/-! ## a tree's bytes put behind those of a list -/
theorem iteC_heads {la : Nat} {nb : Bool} {x y : List (Int × Int)} {lb : Nat} (hx : x.length ≤ la) (hy : y.length ≤ lb) : (x ++ if nb then [] else y).length ≤ 2 + la + if nb then 0 else 2 + lb := by
  rw [List.length_append]
  cases nb with
  | true => simp only [if_true, List.length_nil]; omega
  | false => simp only [Bool.false_eq_true, if_false]; omega
theorem Tr.heads_len : ∀ (t : Tr) (s : Nat), (t.heads s).length ≤ t.len
  | .nil, _ => Nat.le_refl _
  | .row bs r, s => by
    have := Tr.heads_len r (s + bs.length)
    simp only [Tr.heads, Tr.len]
    omega
  | .ite bs a b r, s => by
    have h1 := Tr.heads_len r (s + bs.length + (2 + a.len + if b.isNil then 0 else 2 + b.len))
    have h2 := iteC_heads (nb := b.isNil) (Tr.heads_len a (s + bs.length + 2)) (Tr.heads_len b (s + bs.length + 2 + a.len + 2))
    simp only [Tr.heads, Tr.len]
    rw [List.length_append]
    omega
  | .loop bs a b r, s => by
    have h1 := Tr.heads_len r (s + bs.length + (4 + a.len + b.len))
    have h2 := Tr.heads_len a (s + bs.length)
    have h3 := Tr.heads_len b (s + bs.length + a.len + 2)
    simp only [Tr.heads, Tr.len, List.length_append, List.length_cons, List.length_nil]
    omega
theorem Pt.heads_len (p : Pt) (s : Nat) : (p.heads s).length ≤ p.len := by
  cases p with
  | row bs => exact Nat.zero_le _
  | ite a b => exact iteC_heads (a.heads_len _) (b.heads_len _)
  | loop a b =>
    have h2 := a.heads_len s
    have h3 := b.heads_len (s + a.len + 2)
    simp only [Pt.heads, Pt.len, List.length_append, List.length_cons, List.length_nil]
    omega
theorem headsL_len : ∀ (ps : List Pt) (s : Nat), (headsL ps s).length ≤ lenL ps
  | [], _ => Nat.le_refl _
  | p :: ps, s => by
    have h1 := p.heads_len s
    have h2 := headsL_len ps (s + p.len)
    rw [headsL, List.length_append, lenL]
    omega
section
variable {K : PySem.W.Frag} {w : World} {vs : List V} {H : Hp} {Q : VK} {E : XK} {n : Nat} {σ : L2.St}
theorem headData (k l : Int) (H : Hp) {t : Addr} (h : H t = some (.tup [.int k, .int l])) : Dx H (.ref t) (headD (k, l)) := .tup h (.cons (.int k) (.cons (.int l) .nil))
/-- the list of bytes, as it grows -/
structure Lay (H H' : Hp) (c : Addr) (ms : List Int) : Prop where
  f : Fx c H H'
  g : H' c = some (.lst (ms.map V.int))
section
variable {H' H2 : Hp} {c : Addr} {ms : List Int}
theorem Lay.same (L : Lay H H' c ms) (s : Same H' H2) : Lay H H2 c ms := ⟨L.f.trans (Same.but s), s _ _ L.g⟩
theorem Lay.dx (L : Lay H H' c ms) {v : V} {d : PyData} (h : Dx (but c H) v d) : Dx (but c H') v d := h.mono L.f
theorem Lay.put (L : Lay H H' c ms) (os : List Int) : Lay H (upd H' c (.lst (os.map V.int))) c os := ⟨by
  have f := L.f
  unfold Fx at f ⊢
  rw [but_upd]
  exact f, upd_same⟩
theorem Lay.free (L : Lay H H' c ms) {p : Addr} (h : H' p = none) : H p = none ∧ p ≠ c := by
  have n : p ≠ c := fun z => by
    rw [z, L.g] at h
    cases h
  refine ⟨?_, n⟩
  cases z : H p with
  | none => rfl
  | some o =>
    have := L.f.at n z
    rw [h] at this
    cases this
/-- more bytes, by a new list -/
theorem Lay.ext (L : Lay H H' c ms) {zs : List Int} {l : Addr} (hl : H' l = some (.lst (zs.map V.int))) (hz : ms.length + zs.length ≤ 9000) {QA : VK} (q : ∀ H3, Lay H H3 c (ms ++ zs) → (∀ a o, a ≠ c → H' a = some o → H3 a = some o) → QA .non H3) : rExtend (.ref c) [.ref l] H' QA := by
  refine ⟨c, l, _, _, rfl, rfl, L.g, hl, ?_, ?_⟩
  · rw [List.length_map, List.length_map]
    exact Nat.le_trans hz (by decide)
  · rw [← List.map_append]
    exact q _ (L.put _) fun a o n e => upd_mut n e
/-- .. written -/
theorem Lay.ext2 (L : Lay H H' c ms) {a b : Int} {i : Nat} {te : TE} {σ : L2.St} (hc : σ[i]? = some (some (.ref c))) (hb : ∀ (H2 : Hp) (QV : VK), QV (.int b) H2 → te σ H2 QV) (hz : ms.length + 2 ≤ 9000) {QA : VK} (q : ∀ H3, Lay H H3 c (ms ++ [a, b]) → (∀ x o, x ≠ c → H' x = some o → H3 x = some o) → QA .non H3) : tBM K "list" rExtend (tVar i) (tCons (tLst (tCons (tC (.int a)) (tCons te tNil))) tNil) σ H' QA := by
  refine R.bm (R.var (R.tyL L.g (R.cons (R.lst (R.cons (R.c (R.cons (hb _ _ (R.nil ⟨by k_caughtN0, fun l hl => R.nil ?_⟩)))))))) hc)
  have L2 := L.same (same_upd (o := .lst [V.int a, .int b]) hl)
  exact L2.ext (zs := [a, b]) upd_same hz fun H3 L3 k => q H3 L3 fun x o n e => k x o n (same_upd hl _ _ e)
end
theorem dx_put {H' : Hp} {c : Addr} {xs : List V} {ds : List PyData} {o : HO} (h : DxAll (but c H') xs ds) : DxAll (but c (upd H' c o)) xs ds := by
  rw [but_upd]
  exact h
theorem cat_dx {H' : Hp} {c p b : Addr} {xs ys : List V} {ds es : List PyData} (h : H' p = some (.lst xs)) (h2 : H' b = some (.lst ys)) (dx : DxAll (but c H') xs ds) (dy : DxAll (but c H') ys es) (hl : ds.length + es.length ≤ 9000) (hc : ∃ o, H' c = some o)
    (q : ∀ l H3, Same H' H3 → H' l = none → H3 l = some (.lst (xs ++ ys)) → DxAll (but c H3) (xs ++ ys) (ds ++ es) → Q (.ref l) H3) : rAddA K (.ref p) (.ref b) H' Q := by
  refine R.cat h h2 (by rw [dx.length, dy.length]; exact Nat.le_trans hl (by decide)) fun l hl => ?_
  have s := same_upd (o := .lst (xs ++ ys)) hl
  exact q l _ s hl upd_same (DxAll.mono (Same.but s) (DxAll.app dx dy))
theorem code_set2 {a y z : List Int} {x v : Int} {i : Int} (h : i = (a.length : Int) + 1) : (((a ++ [x, 0]) ++ y) ++ z).set i.toNat v = a ++ x :: v :: (y ++ z) := by
  have e : i.toNat = a.length + 1 := by omega
  rw [e, List.append_assoc, List.append_assoc, List.set_append_right _ _ (by omega), show a.length + 1 - a.length = 1 by omega]
  rfl
/-- the bytes of a tree within -/
theorem Lay.tree {H' : Hp} {c : Addr} {ms : List Int} {σ : L2.St} {te : TE} {v : V} {t : Tr} (L : Lay H H' c ms) (dv : Dx (but c H) v (.list t.data)) (ok : t.Ok) (dn : t.deep + 1 ≤ n) (d9 : t.deep ≤ 9) (ll : ms.length + t.len ≤ 9000) (hv : ∀ QV : VK, QV v H' → te σ H' QV)
    (q : ∀ h H3 xs, Lay H H3 c (ms ++ t.code ms.length) → H' h = none → h ≠ c → Fx c H' H3 → H3 h = some (.lst xs) → DxAll (but c H3) xs ((t.heads ms.length).map headD) → Q (.ref h) H3) (hc : σ[1]? = some (some (.ref c)) := by rfl) : tCall (spTl K w n) [] E0 (tCons te (tCons (tVar 1) tNil)) σ H' Q := by
  obtain ⟨n, rfl⟩ : ∃ m, n = m + 1 := ⟨n - 1, by omega⟩
  refine R.call (R.cons (hv _ (R.cons (R.var (R.nil ?_) hc))))
  exact ⟨v, c, t, ms, rfl, L.dx dv, ok, by omega, d9, L.g, ll, fun h H3 xs f z nc g3 gh dx => q h H3 xs ⟨L.f.trans f, g3⟩ z nc f gh dx⟩
theorem pure_law_loop_laid {F : Prop} (_ : F) (h : spLl K w n vs H Q E) : t_law_loop_laid K w (spTl K w n) { nx := fun _ H' => Q .non H', rt := Q } (start N_law_loop_laid vs) H := by
  obtain ⟨v, c, p, ns, rfl, dv, ⟨a, b, rfl⟩, ok, dn, d10, gc, ll, q⟩ := h
  unfold t_law_loop_laid
  obtain ⟨pv, xs, rfl, hp, hx⟩ := dx_tup dv
  obtain ⟨v0, v1, v2, rfl, h0, ha, hb⟩ : ∃ v0 v1 v2, xs = [v0, v1, v2] ∧ Dx (but c H) v0 (.str "loop") ∧ Dx (but c H) v1 (.list a.data) ∧ Dx (but c H) v2 (.list b.data) := by
    cases hx with
    | cons h0 hx => cases hx with
    | cons ha hx => cases hx with
    | cons hb hx =>
      cases hx
      exact ⟨_, _, _, rfl, h0, ha, hb⟩
  have L0 : Lay H H c ns := ⟨Fx.refl c H, gc⟩
  simp only [Pt.len] at ll
  simp only [Pt.deep] at dn d10
  have ac := a.code_len ns.length
  have la := a.heads_len ns.length
  have lb := b.heads_len (ns.length + a.len + 2)
  have tp : ∀ {H' : Hp} {ms : List Int}, Lay H H' c ms → SqT K H' pv [v0, v1, v2] := fun L => SqT.of (but_same _ _ (L.f _ _ hp))
  refine R.seq (R.asg (R.cb (R.cons (R.var (R.nil (R.lenLI (SqL.of L0.g) (R.gName ?_)))))))
  refine R.seq (R.asg (L0.tree ha ok.1 (by omega) (by omega) (by omega) (fun QV hq => R.op (R.var (R.c (R.ixT1 (tp L0) hq)))) fun h1 H1 x1 L1 z1 n1 _ g1 d1 => R.gName ?_))
  refine R.seq (R.asg (R.cb (R.cons (R.var (R.nil (R.lenLI (SqL.of L1.g) (R.gName ?_)))))))
  have l1 : (ns ++ a.code ns.length).length = ns.length + a.len := by rw [List.length_append, ac]
  refine R.seq (R.drop (L1.ext2 rfl (fun H2 QV hq => R.c hq) (by omega) fun H2 L2 k2 => ?_))
  have g2 := k2 _ _ n1 g1
  have d2 : DxAll (but c H2) x1 ((a.heads ns.length).map headD) := DxAll.mono (fun a o e => by
    have na : a ≠ c := fun z => by rw [z, but_none] at e; cases e
    exact but_get na (k2 _ _ na (but_same _ _ e))) d1
  have l2 : ((ns ++ a.code ns.length) ++ [225, 0]).length = ns.length + a.len + 2 := by rw [List.length_append, l1]; rfl
  refine R.seq (R.asg (R.op (R.var (L2.tree hb ok.2 (by omega) (by omega) (by omega) (fun QV hq => R.op (R.var (R.c (R.ixT (tp L2) (R.atI_pos (by decide) rfl) hq)))) fun h3 H3 x3 L3 z3 n3 f3 g3 d3 => ?_))))
  rw [l2] at L3 d3
  have bc := b.code_len (ns.length + a.len + 2)
  have l3 : (((ns ++ a.code ns.length) ++ [225, 0]) ++ b.code (ns.length + a.len + 2)).length = ns.length + a.len + 2 + b.len := by rw [List.length_append, l2, bc]
  refine cat_dx (f3.at n1 g2) g3 (DxAll.mono f3 d2) d3 (by rw [List.length_map, List.length_map]; omega) ⟨_, L3.g⟩ fun h4 H4 s4 z4 g4 d4 => R.gName ?_
  have L4 := L3.same s4
  have n4 := (L3.free z4).2
  refine R.seq (R.drop (L4.ext2 (b := (ns.length : Nat)) rfl (fun H2 QV hq => R.var hq) (by omega) fun H5 L5 k5 => ?_))
  have g5 := k5 _ _ n4 g4
  have d5 := DxAll.mono (H' := but c H5) (fun a o e => by
    have na : a ≠ c := fun z => by rw [z, but_none] at e; cases e
    exact but_get na (k5 _ _ na (but_same _ _ e))) d4
  have l5 : ((((ns ++ a.code ns.length) ++ [225, 0]) ++ b.code (ns.length + a.len + 2)) ++ [224, (ns.length : Int)]).length = ns.length + a.len + 2 + b.len + 2 := by rw [List.length_append, l3]; rfl
  refine R.seq (R.asg (R.cb (R.cons (R.var (R.nil (R.lenLI (SqL.of L5.g) (R.gSub (R.var (R.op (R.var (R.c (R.addI (R.setLI L5.g ?_ ?_ ?_)))))))))))))
  · omega
  · omega
  rw [code_set2 (by rfl)]
  have L6 := L5.put (ns ++ (Pt.loop a b).code ns.length)
  have e6 : (ns ++ a.code ns.length) ++ 225 :: (((((ns ++ a.code ns.length) ++ [225, 0]) ++ b.code (ns.length + a.len + 2)) ++ [224, (ns.length : Int)]).length : Int) :: (b.code (ns.length + a.len + 2) ++ [224, (ns.length : Int)]) = ns ++ (Pt.loop a b).code ns.length := by
    rw [l5, List.append_assoc]
    rfl
  rw [e6]
  have g6 := upd_mut (o := .lst ((ns ++ (Pt.loop a b).code ns.length).map V.int)) n4 g5
  have d6 := dx_put (o := .lst ((ns ++ (Pt.loop a b).code ns.length).map V.int)) d5
  generalize upd H5 c (.lst ((ns ++ (Pt.loop a b).code ns.length).map V.int)) = H6 at L6 g6 d6 ⊢
  have l6 : (ns ++ (Pt.loop a b).code ns.length).length = ns.length + a.len + b.len + 4 := by rw [List.length_append, Pt.code_len, Pt.len]; omega
  refine R.ret (R.op (R.var (R.lst (R.cons (R.tup (R.cons (R.var (R.cons (R.op (R.cb (R.cons (R.var (R.nil (R.lenLI (SqL.of L6.g) (R.c (R.subI (R.nil ⟨by k_caughtN0, fun t ht => R.nil ⟨by k_caughtN0, fun l hl => ?_⟩⟩)))))))))))))))))
  have s7 := same_upd (o := .tup [V.int (ns.length : Nat), .int (((ns ++ (Pt.loop a b).code ns.length).length : Int) - 2)]) ht
  have s8 := same_upd (o := .lst [V.ref t]) hl
  have L8 := L6.same (s7.trans s8)
  have nt := (L6.free ht).2
  refine cat_dx ((s7.trans s8) _ _ g6) upd_same (DxAll.mono (Same.but (s7.trans s8)) d6) (.cons (headData _ _ _ (but_get nt (s8 _ _ upd_same))) .nil) ?_ ⟨_, L8.g⟩ fun h9 H9 s9 z9 g9 d9 => ?_
  · rw [List.length_append, List.length_map, List.length_map]
    show _ + 1 ≤ 9000
    omega
  have L9 := L8.same s9
  have zz := L8.free z9
  refine q h9 H9 _ L9.f zz.1 zz.2 L9.g g9 ?_
  have e9 : ((a.heads ns.length).map headD ++ (b.heads (ns.length + a.len + 2)).map headD ++ [headD ((ns.length : Nat), (((ns ++ (Pt.loop a b).code ns.length).length : Int) - 2))]) = ((Pt.loop a b).heads ns.length).map headD := by
    rw [l6]
    simp only [Pt.heads, List.map_append, List.map_cons, List.map_nil]
    rw [show (((ns.length + a.len + b.len + 4 : Nat) : Int) - 2) = ((ns.length + a.len + 2 + b.len : Nat) : Int) by omega]
  rw [← e9]
  exact d9
theorem code_setA {a y : List Int} {x v : Int} {i : Int} (h : i = (a.length : Int) + 1) : ((a ++ [x, 0]) ++ y).set i.toNat v = a ++ x :: v :: y := by
  have e : i.toNat = a.length + 1 := by omega
  rw [e, List.append_assoc, List.set_append_right _ _ (by omega), show a.length + 1 - a.length = 1 by omega]
  rfl
theorem code_setB {a z : List Int} {x y v : Int} {i : Int} (h : i = (a.length : Int) + 1) : (a ++ x :: y :: z).set i.toNat v = a ++ x :: v :: z := by
  have e : i.toNat = a.length + 1 := by omega
  rw [e, List.set_append_right _ _ (by omega), show a.length + 1 - a.length = 1 by omega]
  rfl
/-- whether a tree's data is not empty -/
theorem Lay.neNil {H' : Hp} {c : Addr} {ms : List Int} {v : V} {t : Tr} (L : Lay H H' c ms) (dv : Dx (but c H) v (.list t.data)) (d9 : t.deep ≤ 20) {QV : VK} (q : ∀ H3, Same H' H3 → QV (.bl (!t.isNil)) H3) : tLst tNil σ H' (fun y H2 => rNeA K v y H2 QV) := by
  refine R.lst (R.nil ⟨by k_caughtN0, fun le hle => ?_⟩)
  have s := same_upd (o := .lst []) hle
  refine R.neD (((L.dx dv).mono but_same).mono s).dp (.lst (SqL.of upd_same) .nil) (Tr.shaped d9) shaped_nil ?_
  rw [Tr.eqv_nil]
  exact q _ s
theorem pure_law_if_laid {F : Prop} (_ : F) (h : spIl K w n vs H Q E) : t_law_if_laid K w (spTl K w n) { nx := fun _ H' => Q .non H', rt := Q } (start N_law_if_laid vs) H := by
  obtain ⟨v, c, p, ns, rfl, dv, ⟨a, b, rfl⟩, ok, dn, d10, gc, ll, q⟩ := h
  unfold t_law_if_laid
  obtain ⟨pv, xs, rfl, hp, hx⟩ := dx_tup dv
  obtain ⟨v0, v1, v2, rfl, h0, ha, hb⟩ : ∃ v0 v1 v2, xs = [v0, v1, v2] ∧ Dx (but c H) v0 (.str "if") ∧ Dx (but c H) v1 (.list a.data) ∧ Dx (but c H) v2 (.list b.data) := by
    cases hx with
    | cons h0 hx => cases hx with
    | cons ha hx => cases hx with
    | cons hb hx =>
      cases hx
      exact ⟨_, _, _, rfl, h0, ha, hb⟩
  have L0 : Lay H H c ns := ⟨Fx.refl c H, gc⟩
  simp only [Pt.len] at ll
  simp only [Pt.deep] at dn d10
  have ac := a.code_len (ns.length + 2)
  have la := a.heads_len (ns.length + 2)
  have lb := b.heads_len (ns.length + 2 + a.len + 2)
  have tp : ∀ {H' : Hp} {ms : List Int}, Lay H H' c ms → SqT K H' pv [v0, v1, v2] := fun L => SqT.of (but_same _ _ (L.f _ _ hp))
  refine R.seq (R.asg (R.cb (R.cons (R.var (R.nil (R.lenLI (SqL.of L0.g) (R.gName ?_)))))))
  refine R.seq (R.drop (L0.ext2 rfl (fun H2 QV hq => R.c hq) (by omega) fun H1 L1 k1 => ?_))
  have l1 : (ns ++ [(226 : Int), 0]).length = ns.length + 2 := by rw [List.length_append]; rfl
  refine R.seq (R.asg (L1.tree ha ok.1 (by omega) (by omega) (by omega) (fun QV hq => R.op (R.var (R.c (R.ixT1 (tp L1) hq)))) fun h2 H2 x2 L2 z2 n2 _ g2 d2 => R.gName ?_))
  rw [l1] at L2 d2
  have l2 : ((ns ++ [(226 : Int), 0]) ++ a.code (ns.length + 2)).length = ns.length + 2 + a.len := by rw [List.length_append, l1, ac]
  refine R.seq (R.asg (R.op (R.cb (R.cons (R.var (R.nil (R.lenLI (SqL.of L2.g) (R.c (R.addI (R.gName ?_))))))))))
  refine R.seq (R.ifS (R.test (R.op (R.op (R.var (R.c (R.ixT (tp L2) (R.atI_pos (by decide) rfl) (L2.neNil hb (by omega) fun H3 s3 => R.bl ?_))))))))
  have L3 := L2.same s3
  have g3 := s3 _ _ g2
  have d3 := DxAll.mono (Same.but (r := c) s3) d2
  have hd2 : ∀ {H' H'' : Hp} {os : List Int}, H'' = upd H' c (.lst (os.map V.int)) → DxAll (but c H') x2 ((a.heads (ns.length + 2)).map headD) → DxAll (but c H'') x2 ((a.heads (ns.length + 2)).map headD) := fun e h => by
    rw [e, but_upd]
    exact h
  cases hn : b.isNil with
  | true =>
    rw [hn, if_pos rfl] at ll
    refine R.iF (R.next ?_)
    refine R.seq (R.asg (R.cb (R.cons (R.var (R.nil (R.lenLI (SqL.of L3.g) (R.gSub (R.var (R.op (R.var (R.c (R.addI (R.setLI L3.g ?_ ?_ ?_)))))))))))))
    · omega
    · omega
    have e6 : (((ns ++ [(226 : Int), 0]) ++ a.code (ns.length + 2)).set ((ns.length : Int) + 1).toNat ((((ns ++ [(226 : Int), 0]) ++ a.code (ns.length + 2)).length : Nat) : Int)) = ns ++ (Pt.ite a b).code ns.length := by
      rw [code_setA rfl, l2]
      simp only [Pt.code, iteC, hn, if_true]
    rw [e6]
    have L6 := L3.put (ns ++ (Pt.ite a b).code ns.length)
    have g6 := upd_mut (o := .lst ((ns ++ (Pt.ite a b).code ns.length).map V.int)) n2 g3
    have d6 := hd2 rfl (os := ns ++ (Pt.ite a b).code ns.length) d3
    generalize upd H3 c (.lst ((ns ++ (Pt.ite a b).code ns.length).map V.int)) = H6 at L6 g6 d6 ⊢
    refine R.seq (R.ifS (R.test (R.op (R.op (R.var (R.c (R.ixT (tp L6) (R.atI_pos (by decide) rfl) (L6.neNil hb (by omega) fun H7 s7 => R.bl ?_))))))))
    rw [hn]
    have L7 := L6.same s7
    have zz := L1.free z2
    refine R.iF (R.next (R.ret (R.var (q h2 H7 x2 L7.f zz.1 zz.2 L7.g (s7 _ _ g6) ?_))))
    have e7 : (Pt.ite a b).heads ns.length = a.heads (ns.length + 2) := by simp only [Pt.heads, hn, if_true, List.append_nil]
    rw [e7]
    exact DxAll.mono (Same.but s7) d6
  | false =>
    rw [hn, if_neg Bool.false_ne_true] at ll
    refine R.iT (R.drop (L3.ext2 rfl (fun H2 QV hq => R.c hq) (by omega) fun H4 L4 k4 => ?_))
    have g4 := k4 _ _ n2 g3
    have d4 := DxAll.mono (H' := but c H4) (fun a o e => by
      have na : a ≠ c := fun z => by rw [z, but_none] at e; cases e
      exact but_get na (k4 _ _ na (but_same _ _ e))) d3
    have l4 : (((ns ++ [(226 : Int), 0]) ++ a.code (ns.length + 2)) ++ [224, 0]).length = ns.length + 2 + a.len + 2 := by rw [List.length_append, l2]; rfl
    refine R.seq (R.asg (R.cb (R.cons (R.var (R.nil (R.lenLI (SqL.of L4.g) (R.gSub (R.var (R.op (R.var (R.c (R.addI (R.setLI L4.g ?_ ?_ ?_)))))))))))))
    · omega
    · omega
    have e5 : ((((ns ++ [(226 : Int), 0]) ++ a.code (ns.length + 2)) ++ [224, 0]).set ((ns.length : Int) + 1).toNat (((((ns ++ [(226 : Int), 0]) ++ a.code (ns.length + 2)) ++ [224, 0]).length : Nat) : Int)) = (ns ++ 226 :: ((ns.length + 2 + a.len + 2 : Nat) : Int) :: a.code (ns.length + 2)) ++ [224, 0] := by
      rw [code_set2 rfl, l4, List.append_assoc]
      rfl
    rw [e5]
    have L5 := L4.put ((ns ++ 226 :: ((ns.length + 2 + a.len + 2 : Nat) : Int) :: a.code (ns.length + 2)) ++ [224, 0])
    have g5 := upd_mut (o := .lst (((ns ++ 226 :: ((ns.length + 2 + a.len + 2 : Nat) : Int) :: a.code (ns.length + 2)) ++ [224, 0]).map V.int)) n2 g4
    have d5 := hd2 rfl (os := (ns ++ 226 :: ((ns.length + 2 + a.len + 2 : Nat) : Int) :: a.code (ns.length + 2)) ++ [224, 0]) d4
    have l5' : (ns ++ 226 :: ((ns.length + 2 + a.len + 2 : Nat) : Int) :: a.code (ns.length + 2)).length = ns.length + 2 + a.len := by
      simp only [List.length_append, List.length_cons, ac]
      omega
    have l5 : ((ns ++ 226 :: ((ns.length + 2 + a.len + 2 : Nat) : Int) :: a.code (ns.length + 2)) ++ [224, 0]).length = ns.length + 2 + a.len + 2 := by rw [List.length_append, l5']; rfl
    generalize upd H4 c (.lst (((ns ++ 226 :: ((ns.length + 2 + a.len + 2 : Nat) : Int) :: a.code (ns.length + 2)) ++ [224, 0]).map V.int)) = H5 at L5 g5 d5 ⊢
    refine R.seq (R.ifS (R.test (R.op (R.op (R.var (R.c (R.ixT (tp L5) (R.atI_pos (by decide) rfl) (L5.neNil hb (by omega) fun H7 s7 => R.bl ?_))))))))
    rw [hn]
    have L7 := L5.same s7
    have g7 := s7 _ _ g5
    have d7 := DxAll.mono (Same.but (r := c) s7) d5
    refine R.iT (R.seq (R.asg (R.op (R.var (L7.tree hb ok.2 (by omega) (by omega) (by omega) (fun QV hq => R.op (R.var (R.c (R.ixT (tp L7) (R.atI_pos (by decide) rfl) hq)))) fun h8 H8 x8 L8 z8 n8 f8 g8 d8 => ?_)))))
    rw [l5] at L8 d8
    have bc := b.code_len (ns.length + 2 + a.len + 2)
    refine cat_dx (f8.at n2 g7) g8 (DxAll.mono f8 d7) d8 (by rw [List.length_map, List.length_map]; omega) ⟨_, L8.g⟩ fun h9 H9 s9 z9 g9 d9 => R.gName ?_
    have L9 := L8.same s9
    have zz := L8.free z9
    generalize eA : (ns ++ 226 :: ((ns.length + 2 + a.len + 2 : Nat) : Int) :: a.code (ns.length + 2)) = A at L9 l5' l5
    have l9 : ((A ++ [224, 0]) ++ b.code (ns.length + 2 + a.len + 2)).length = ns.length + 2 + a.len + 2 + b.len := by rw [List.length_append, l5, bc]
    refine R.asg (R.cb (R.cons (R.var (R.nil (R.lenLI (SqL.of L9.g) (R.gSub (R.var (R.var (R.setLI L9.g ?_ ?_ ?_)))))))))
    · omega
    · omega
    have e10 : ((A ++ [224, 0]) ++ b.code (ns.length + 2 + a.len + 2)).set ((((ns ++ [(226 : Int), 0]) ++ a.code (ns.length + 2)).length : Int) + 1).toNat ((((A ++ [224, 0]) ++ b.code (ns.length + 2 + a.len + 2)).length : Nat) : Int) = ns ++ (Pt.ite a b).code ns.length := by
      rw [code_setA (by rw [l2, l5']), l9, ← eA]
      simp only [Pt.code, iteC, hn, Bool.false_eq_true, if_false, List.append_assoc, List.cons_append]
    rw [e10]
    have L10 := L9.put (ns ++ (Pt.ite a b).code ns.length)
    refine R.ret (R.var (q h9 _ _ L10.f zz.1 zz.2 L10.g (upd_mut zz.2 g9) ?_))
    rw [but_upd]
    have e11 : ((a.heads (ns.length + 2)).map headD ++ (b.heads (ns.length + 2 + a.len + 2)).map headD) = ((Pt.ite a b).heads ns.length).map headD := by
      simp only [Pt.heads, hn, Bool.false_eq_true, if_false, List.map_append]
    rw [← e11]
    exact d9
theorem pure_law_tree_laid {F : Prop} (_ : F) (h : spTl K w (n + 1) vs H Q E) : t_law_tree_laid K w (spIl K w n) (spLl K w n) { nx := fun _ H' => Q .non H', rt := Q } (start N_law_tree_laid vs) H := by
  obtain ⟨v, c, t, ns, rfl, dv, ok, dn, d9, gc, ll, q⟩ := h
  unfold t_law_tree_laid
  obtain ⟨pv, xs, rfl, hp, hx⟩ := dx_lst dv
  rw [Tr.data_parts] at hx
  rw [Tr.len_parts] at ll
  have L0 : Lay H H c ns := ⟨Fx.refl c H, gc⟩
  refine R.seq (R.asg (R.lst (R.nil ⟨by k_caughtN0, fun D hD => R.gName ?_⟩)))
  have L1 := L0.same (same_upd (o := .lst []) hD)
  have f1 := L0.free hD
  have lx := hx.length
  rw [List.length_map] at lx
  refine R.seq (R.for' (R.seqIter (R.var ?_)))
  refine R.forL (xs := xs) (fun i σ H' => ∃ (h : Addr) (hs : List V) (v3 : Option V), σ = [some (.ref pv), some (.ref c), some (.ref h), v3] ∧ Lay H H' c (ns ++ codeL (t.parts.take i) ns.length) ∧ H h = none ∧ h ≠ c ∧ H' h = some (.lst hs) ∧ DxAll (but c H') hs ((headsL (t.parts.take i) ns.length).map headD))
    (SqL.of (but_same _ _ (L1.f _ _ hp))) ⟨D, [], _, rfl, by rw [List.take_zero, codeL, List.append_nil]; exact L1, f1.1, f1.2, upd_same, .nil⟩ (fun i σ H' _ z => by
      obtain ⟨_, _, _, _, L, _⟩ := z
      exact SqL.of (but_same _ _ (L.f _ _ hp))) ?_ ?_
  · rintro i x σ H2 hxi hi ⟨h, hs, v3, rfl, L, hh, nh, gh, dh⟩
    obtain ⟨d, hd, dx⟩ := DxAll.get hx hxi
    rw [List.getElem?_map] at hd
    obtain ⟨p, hpi, rfl⟩ := Option.map_eq_some_iff.mp hd
    have pm : p ∈ t.parts := List.mem_of_getElem? hpi
    have okp := Tr.ok_parts ok p pm
    have dpp := Tr.deep_parts p pm
    have lp := lenL_get hpi
    have lc : (ns ++ codeL (t.parts.take i) ns.length).length = ns.length + lenL (t.parts.take i) := by rw [List.length_append, codeL_len]
    have lh := headsL_len (t.parts.take i) ns.length
    have lph := p.heads_len (ns.length + lenL (t.parts.take i))
    have tk : t.parts.take (i + 1) = t.parts.take i ++ [p] := by rw [List.take_add_one, hpi]; rfl
    have ec : (ns ++ codeL (t.parts.take i) ns.length) ++ p.code (ns.length + lenL (t.parts.take i)) = ns ++ codeL (t.parts.take (i + 1)) ns.length := by rw [tk, codeL_app, List.append_assoc]
    have eh : headsL (t.parts.take i) ns.length ++ p.heads (ns.length + lenL (t.parts.take i)) = headsL (t.parts.take (i + 1)) ns.length := by rw [tk, headsL_app]
    refine R.gName ?_
    -- behind a call that lays a part
    have tail : ∀ {sp : Sp} {pt : Pt → Prop} {bk ct : L2.St → Hp → Prop}, sp = spPt K pt n → pt p → tAsg (tOp (rAddA K) (tVar 2) (tCall sp [] E0 (tCons (tVar 3) (tCons (tVar 1) tNil)))) (gName 2) ⟨fun σ H' => ∃ (h : Addr) (hs : List V) (v3 : Option V), σ = [some (V.ref pv), some (.ref c), some (.ref h), v3] ∧ Lay H H' c (ns ++ codeL (t.parts.take (i + 1)) ns.length) ∧ H h = none ∧ h ≠ c ∧ H' h = some (.lst hs) ∧ DxAll (but c H') hs ((headsL (t.parts.take (i + 1)) ns.length).map headD), Q, bk, ct⟩ [some (.ref pv), some (.ref c), some (.ref h), some x] H2 := fun {sp pt bk ct} hsp hpt => by
      subst hsp
      refine R.asg (R.op (R.var (R.call (R.cons (R.var (R.cons (R.var (R.nil ?_))))))))
      refine ⟨x, c, p, _, rfl, L.dx dx, hpt, okp, by omega, by omega, L.g, by rw [lc]; omega, fun h4 H4 x4 f4 z4 n4 g4 gh4 d4 => ?_⟩
      rw [lc] at g4 d4
      rw [ec] at g4
      have L4 : Lay H H4 c (ns ++ codeL (t.parts.take (i + 1)) ns.length) := ⟨L.f.trans f4, g4⟩
      refine cat_dx (f4.at nh gh) gh4 (DxAll.mono f4 dh) d4 (by rw [List.length_map, List.length_map]; omega) ⟨_, L4.g⟩ fun h5 H5 s5 z5 g5 d5 => R.gName ?_
      have zz := L4.free z5
      rw [← List.map_append, eh] at d5
      exact ⟨h5, _, _, rfl, L4.same s5, zz.1, zz.2, g5, d5⟩
    have dx2 := (L.dx dx).mono but_same
    cases p with
    | row bs =>
      obtain ⟨q, us, rfl, hq, hu⟩ := dx_tup dx2
      cases hu with
      | cons u0 hu =>
      cases hu with
      | cons u1 hu =>
      cases hu
      cases dx_str u0
      obtain ⟨l, zs, rfl, hl, hz⟩ := dx_lst u1
      rw [DxAll.of_ints hz] at hl
      refine R.ifS (R.test (R.op (R.op (R.var (R.c (R.ixT0 (SqT.of hq) (R.c (R.eqSx (R.bl (R.iT ?_))))))))))
      refine R.drop (R.bm (R.var (R.tyL L.g (R.cons (R.op (R.var (R.c (R.ixT1 (SqT.of hq) (R.nil (L.ext hl (by simp only [Pt.len] at lp; omega) fun H4 L4 k4 => ?_))))))))))
      refine ⟨h, hs, _, rfl, by rw [← ec]; exact L4, hh, nh, k4 _ _ nh gh, ?_⟩
      rw [← eh]
      simp only [Pt.heads, List.append_nil]
      exact DxAll.mono (fun a o e => by
        have na : a ≠ c := fun z => by rw [z, but_none] at e; cases e
        exact but_get na (k4 _ _ na (but_same _ _ e))) dh
    | ite a b =>
      obtain ⟨q, us, rfl, hq, hu⟩ := dx_tup dx2
      cases hu with
      | cons u0 hu =>
      cases dx_str u0
      refine R.ifS (R.test (R.op (R.op (R.var (R.c (R.ixT0 (SqT.of hq) (R.c (R.eqS (R.bl (R.iDF (by decide) ?_))))))))))
      refine R.ifS (R.test (R.op (R.op (R.var (R.c (R.ixT0 (SqT.of hq) (R.c (R.eqSx (R.bl (R.iT ?_))))))))))
      exact tail rfl ⟨a, b, rfl⟩
    | loop a b =>
      obtain ⟨q, us, rfl, hq, hu⟩ := dx_tup dx2
      cases hu with
      | cons u0 hu =>
      cases dx_str u0
      refine R.ifS (R.test (R.op (R.op (R.var (R.c (R.ixT0 (SqT.of hq) (R.c (R.eqS (R.bl (R.iDF (by decide) ?_))))))))))
      refine R.ifS (R.test (R.op (R.op (R.var (R.c (R.ixT0 (SqT.of hq) (R.c (R.eqS (R.bl (R.iDF (by decide) ?_))))))))))
      exact tail rfl ⟨a, b, rfl⟩
  · rintro σ H2 ⟨h, hs, v3, rfl, L, hh, nh, gh, dh⟩
    rw [lx, List.take_length] at L dh
    rw [← Tr.code_parts] at L
    rw [← Tr.heads_parts] at dh
    exact R.ret (R.var (q h H2 hs L.f hh nh L.g gh dh))
end
end Rl
namespace Rl
open PySem PySem.Spec PyProof.Rows L2
/-! ## `_law_made` -/
section
variable {K : PySem.W.Frag} {w : World} {vs : List V} {H : Hp} {Q : VK} {E : XK} {n : Nat}
theorem heads_keep {X Y : Hp} (m : ∀ a us, X a = some (.tup us) → Y a = some (.tup us)) : ∀ {hs : List (Int × Int)} {xs : List V}, DxAll X xs (hs.map headD) → DxAll Y xs (hs.map headD)
  | [], _, h => by
    cases h
    exact .nil
  | (a, b) :: hs, _, h => by
    cases h with
    | cons h1 h2 =>
      refine .cons ?_ (heads_keep m h2)
      obtain ⟨p, us, rfl, hp, hu⟩ := dx_tup h1
      cases hu with
      | cons u0 hu =>
      cases hu with
      | cons u1 hu =>
      cases hu
      cases dx_int u0
      cases dx_int u1
      exact headData _ _ _ (m _ _ hp)
theorem pure_law_made {F : Prop} (_ : F) (h : sp_law_made K w vs H Q E) : t_law_made K w { nx := fun _ H' => Q .non H', rt := Q } (start N_law_made vs) H := by
  obtain ⟨r, l, as, rfl, hS, nl, gl, l100, q⟩ := h
  unfold t_law_made
  refine R.seq (R.for' (R.seqIter (R.lst (R.cons (R.c (R.cons (R.c (R.cons (R.c (R.cons (R.c (R.nil ⟨by k_caughtN0, fun d hd => ?_⟩))))))))))))
  have s1 := same_upd (o := .lst [V.int 3, .int 2, .int 1, .int 0]) hd
  have S1 := hS.keep s1
  have nd := hS.ne hd
  have gd : (upd H d (.lst [V.int 3, .int 2, .int 1, .int 0])) d = some (.lst (([3, 2, 1, 0] : List Int).map V.int)) := upd_same
  generalize upd H d (.lst [V.int 3, .int 2, .int 1, .int 0]) = H1 at s1 S1 gd ⊢
  refine R.forLI (ns := [3, 2, 1, 0]) (fun i σ H' => ∃ (v2 v3 v4 : Option V), σ = [some (.ref r), some (.ref l), v2, v3, v4] ∧ Fx r H H' ∧ Spr H' r ∧ H' d = some (.lst (([3, 2, 1, 0] : List Int).map V.int)) ∧ H' l = some (.lst (as.map V.int))) (SqL.of gd)
    ⟨_, _, _, rfl, Same.but s1, S1, gd, s1 _ _ gl⟩ (fun i σ H' _ ⟨_, _, _, _, _, _, z, _⟩ => SqL.of z) ?_ ?_
  · rintro i m σ H2 hm hmm hi ⟨v2, v3, v4, rfl, f2, S2, gd2, gl2⟩
    have m03 : 0 ≤ m ∧ m ≤ 3 := by
      simp only [List.mem_cons, List.not_mem_nil, or_false] at hmm
      omega
    refine R.gName (R.seq (R.asg (R.cb (R.cons (R.var (R.nil (R.listL (SqL.of gl2) fun c hc => R.gName ?_)))))))
    have s3 := same_upd (o := .lst (as.map V.int)) hc
    have nc := S2.ne hc
    have S3 := S2.keep s3
    have gc3 : (upd H2 c (.lst (as.map V.int))) c = some (.lst (as.map V.int)) := upd_same
    have f3 : Fx r H _ := f2.trans (Same.but s3)
    have hcH : H c = none := f2.freeS S2 hc
    have ncd : c ≠ d := fun z => by rw [z, gd2] at hc; cases hc
    have ncl : c ≠ l := fun z => by rw [z, gl2] at hc; cases hc
    have gd3 := s3 _ _ gd2
    have gl3 := s3 _ _ gl2
    generalize upd H2 c (.lst (as.map V.int)) = H3 at s3 S3 gc3 f3 gd3 gl3 ⊢
    refine R.seq (R.asg (R.call (R.cons (R.call (R.cons (R.var (R.cons (R.call (R.cons (R.var (R.cons (R.op (R.var (R.c (R.addI (R.nil ?_))))))))))))))))
    refine ⟨r, m + 1, rfl, S3, by omega, by omega, fun k H4 f4 S4 k0 k1 => R.nil ?_⟩
    have k3 : k.toNat ≤ 3 := by omega
    refine ⟨r, k.toNat, by rw [Int.toNat_of_nonneg k0]; rfl, S4, k3, k3, fun v H5 t f5 S5 dv G ni => R.cons (R.var (R.nil ?_))⟩
    have gc4 := f4.at nc gc3
    have gc5 := f5.at nc gc4
    have dv5 : Dx (but c H5) v (.list t.data) := Dx.mono (nw_but ⟨_, gc4⟩) dv
    have wt := wT_small (n := k.toNat) (by omega)
    have ln := G.ln
    have dp := G.dp
    have d4 : t.deep ≤ 4 := by omega
    have d9 : t.deep ≤ 9 := by omega
    refine ⟨v, c, t, as, rfl, dv5, G.ok, d4, d9, gc5, by omega, fun h H6 xs f6 hh nh gc6 gh6 dh6 => R.gName ?_⟩
    have S6 : Spr H6 r := by
      obtain ⟨a, b, e, g1, g2⟩ := S5
      exact ⟨a, b, e, f6.at nc.symm g1, g2⟩
    have f06 : Fx r H H6 := fun x o e => by
      obtain ⟨nr, e2⟩ : x ≠ r ∧ H x = some o := ⟨(fun z => by rw [z, but_none] at e; cases e), but_same _ _ e⟩
      have ncx : x ≠ c := fun z => by rw [z, hcH] at e2; cases e2
      exact but_get nr (f6.at ncx (((f3.trans f4).trans f5).at nr e2))
    have gd6 := f6.at ncd.symm ((f4.trans f5).at nd gd3)
    have gl6 := f6.at ncl.symm ((f4.trans f5).at nl gl3)
    have lc : (as ++ t.code as.length).length = as.length + t.len := by rw [List.length_append, t.code_len]
    have hhH : H h = none := by
      cases z : H h with
      | none => rfl
      | some o =>
        have nr : h ≠ r := fun y => by
          obtain ⟨u, hu⟩ := S5.some
          rw [y, hu] at hh
          cases hh
        have := ((f3.trans f4).trans f5).at nr z
        rw [hh] at this
        cases this
    have nhr : h ≠ r := fun y => by
      obtain ⟨u, hu⟩ := S5.some
      rw [y, hu] at hh
      cases hh
    refine R.ifS (R.test (R.op (R.cb (R.cons (R.var (R.nil (R.lenLI (SqL.of gc6) (R.c (R.ltI (R.bl (R.iD (fun hlt => ?_) fun _ => R.next ⟨_, _, _, rfl, f06, S6, gd6, gl6⟩)))))))))))
    rw [lc] at hlt
    refine R.ret (R.tup (R.cons (R.op (R.var (R.lst (R.cons (R.call (R.cons (R.var (R.cons (R.c (R.nil ⟨r, 2, rfl, S6, by decide, by decide, fun x H7 f7 S7 x0 x1 => R.nil ⟨by k_caughtN0, fun l1 hl1 => ?_⟩⟩))))))))))))
    have s8 := same_upd (o := .lst [V.int x]) hl1
    refine R.catI (ys := [x]) (s8 _ _ (f7.at nc gc6)) upd_same (by rw [lc]; exact Nat.le_trans (m := 1000) (by show _ + 1 ≤ _; omega) (by decide)) fun cd hcd => R.cons (R.var (R.nil ⟨by k_caughtN0, fun qq hqq => ?_⟩))
    have s9 := same_upd (o := .lst (((as ++ t.code as.length) ++ [x]).map V.int)) hcd
    have s10 := same_upd (o := .tup [V.ref cd, .ref h]) hqq
    have F7 := f06.trans f7
    have S8 := S7.keep s8
    have S9 := S8.keep s9
    have F9 := F7.trans (Same.but (s8.trans s9))
    have gh7 := f7.at nhr gh6
    have ncdh : cd ≠ h := fun z => by
      rw [z, s8 _ _ gh7] at hcd
      cases hcd
    refine q qq cd h _ t x xs (F9.freeS S9 hqq) ((F7.trans (Same.but s8)).freeS S8 hcd) hhH (S8.ne hcd) ncdh (F9.trans (Same.but s10)) (S9.keep s10) upd_same ?_ (s10 _ _ (s9 _ _ (s8 _ _ gh7))) ?_ G.ok (by omega) (by omega) (by omega)
    · rw [← List.append_assoc]
      exact s10 _ _ upd_same
    · refine heads_keep (fun y us e => ?_) dh6
      have e6 := but_same _ _ e
      have nyr : y ≠ r := fun z => by
        obtain ⟨a, b, c, g, _⟩ := S6
        rw [z, g] at e6
        cases e6
      have e8 := s8 _ _ (f7.at nyr e6)
      have nyd : y ≠ cd := fun z => by
        rw [z, hcd] at e8
        cases e8
      exact but_get nyd (but_get nyr (s10 _ _ (s9 _ _ e8)))
  · rintro σ H2 ⟨v2, v3, v4, rfl, f2, S2, gd2, gl2⟩
    refine R.ret (R.tup (R.cons (R.op (R.cb (R.cons (R.var (R.nil (R.listL (SqL.of gl2) fun c hc => R.lst (R.cons (R.c (R.nil ⟨by k_caughtN0, fun z hz => ?_⟩)))))))))))
    have s3 := same_upd (o := .lst (as.map V.int)) hc
    have s4 := same_upd (o := .lst [V.int 0]) hz
    refine R.catI (xs := as) (ys := [0]) (s4 _ _ upd_same) upd_same (Nat.le_trans (m := 1000) (by show _ + 1 ≤ _; omega) (by decide)) fun cd hcd => R.cons (R.lst (R.nil ⟨by k_caughtN0, fun hl hhl => R.nil ⟨by k_caughtN0, fun qq hqq => ?_⟩⟩))
    have s5 := same_upd (o := .lst ((as ++ [0]).map V.int)) hcd
    have s6 := same_upd (o := .lst []) hhl
    have s7 := same_upd (o := .tup [V.ref cd, .ref hl]) hqq
    have ss := s3.trans (s4.trans (s5.trans (s6.trans s7)))
    have F9 := f2.trans (Same.but ss)
    have zz : ∀ {p : Addr} {H' : Hp}, Same H2 H' → H' p = none → H p = none := fun s h => (f2.trans (Same.but s)).freeS (S2.keep s) h
    have ncd : cd ≠ r := (S2.keep (s3.trans s4)).ne hcd
    have nch : cd ≠ hl := fun z => by
      rw [← z, upd_same] at hhl
      cases hhl
    exact q qq cd hl _ .nil 0 [] (zz (s3.trans (s4.trans (s5.trans s6))) hqq) (zz (s3.trans s4) hcd) (zz (s3.trans (s4.trans s5)) hhl) ncd nch F9 (S2.keep ss) upd_same (s7 _ _ (s6 _ _ upd_same)) (s7 _ _ upd_same) .nil trivial (Nat.zero_le _) (by show as.length + 0 < 190; omega) (.inl rfl)
end
end Rl
namespace Rl
open PySem PySem.Spec PyProof.Rows L2
/-! ## codes of rows, drawn -/
abbrev aloneW : List Str := ["halt", "back", "rest"]
abbrev singleW : List Str := ["in", "out", "keep", "take"]
abbrev targetW : List Str := ["go", "zero", "nonzero", "less", "notless", "call"]
abbrev numbW : List Str := ["set", "testn", "loadn", "storen"]
abbrev someW : List Str := ["set", "copy", "add", "sub", "and", "or", "xor", "test", "testn", "load", "store", "loadn", "storen"]
theorem fin3 : ∀ k : Fin 3, k = 0 ∨ k = 1 ∨ k = 2 := by decide
theorem fin5 : ∀ k : Fin 5, k = 0 ∨ k = 1 ∨ k = 2 ∨ k = 3 ∨ k = 4 := by decide
theorem occ_box : ∀ r : Fin 4, Builtin.Str.occurrences "abcd" (bxN r.val) 0 ("abcd" : Str).length 1 = [r.val] := by decide +kernel
section
variable {K : PySem.W.Frag} {w : World} {H : Hp} {Q : VK} {p : Addr} {wd : Str}
theorem R.boxIx {σ : L2.St} {te : TE} {r : Nat} {Q' : VK} (hr : r < 4) (he : ∀ Q2 : VK, Q2 (.str (bxN r)) H → te σ H Q2) (q : Q' (.int r) H) : tBM K "str" rStrIx (tC (.str "abcd")) (tCons te tNil) σ H Q' :=
  R.bm (R.c (R.tyS (R.cons (he _ (R.nil (R.strIx (occ_box ⟨r, hr⟩) q))))))
theorem lb_alone {j : Nat} (hp : SqT K H p [.str wd]) (hj : aloneW[j]? = some wd) (hn : ∀ m, m < j → aloneW[m]? ≠ some wd) (q : ∀ l H', Same H H' → H l = none → H' l = some (.lst [.int j]) → Q (.ref l) H') : t_law_bytes K w { nx := fun _ H' => Q .non H', rt := Q } (start N_law_bytes [.ref p]) H := by
  unfold t_law_bytes
  refine R.seq (R.asg (R.rw0 hp (R.gName ?_)))
  refine R.seq (R.inY aloneW (List.mem_of_getElem? hj) fun H1 s1 => ?_)
  refine R.ret (R.lst (R.cons (R.ixOf aloneW hj hn fun H2 s2 => R.nil ⟨by k_caughtN0, fun l hl => ?_⟩)))
  exact q l _ ((s1.trans s2).trans (same_upd hl)) ((s1.trans s2).free hl) upd_same
theorem lb_target {j : Nat} {t : Int} (hp : SqT K H p [.str wd, .int t]) (h0 : wd ∉ aloneW) (hj : targetW[j]? = some wd) (hn : ∀ m, m < j → targetW[m]? ≠ some wd) (q : ∀ l H', Same H H' → H l = none → H' l = some (.lst [.int (224 + j), .int t]) → Q (.ref l) H') : t_law_bytes K w { nx := fun _ H' => Q .non H', rt := Q } (start N_law_bytes [.ref p]) H := by
  unfold t_law_bytes
  refine R.seq (R.asg (R.rw0 hp (R.gName ?_)))
  refine R.seq (R.inN aloneW h0 fun H1 s1 => R.next ?_)
  refine R.seq (R.inY targetW (List.mem_of_getElem? hj) fun H2 s2 => ?_)
  refine R.ret (R.lst (R.cons (R.op (R.c (R.ixOf targetW hj hn fun H3 s3 => R.addI ?_)))))
  have s := (s1.trans s2).trans s3
  refine R.cons (R.rw1 (SqT.mono s hp) (R.nil ⟨by k_caughtN0, fun l hl => ?_⟩))
  exact q l _ (s.trans (same_upd hl)) (s.free hl) upd_same
theorem lb_single {j r : Nat} (hp : SqT K H p [.str wd, .str (bxN r)]) (h0 : wd ∉ aloneW) (h1 : wd ∉ targetW) (hj : singleW[j]? = some wd) (hn : ∀ m, m < j → singleW[m]? ≠ some wd) (hr : r < 4) (q : ∀ l H', Same H H' → H l = none → H' l = some (.lst [.int (240 + 4 * (r : Int) + j)]) → Q (.ref l) H') : t_law_bytes K w { nx := fun _ H' => Q .non H', rt := Q } (start N_law_bytes [.ref p]) H := by
  unfold t_law_bytes
  refine R.seq (R.asg (R.rw0 hp (R.gName ?_)))
  refine R.seq (R.inN aloneW h0 fun H1 s1 => R.next ?_)
  refine R.seq (R.inN targetW h1 fun H2 s2 => R.next ?_)
  have hp2 := SqT.mono (s1.trans s2) hp
  refine R.seq (R.asg (R.op (R.c (R.boxIx hr (fun Q2 q2 => R.rw1 hp2 q2) (R.mulI (R.cmul1 (by decide) (by decide)) (R.gName ?_))))))
  refine R.seq (R.inY singleW (List.mem_of_getElem? hj) fun H3 s3 => ?_)
  refine R.ret (R.lst (R.cons (R.op (R.op (R.c (R.var (R.addI ?_)))))))
  refine R.ixOf singleW hj hn fun H4 s4 => R.addI (R.nil ⟨by k_caughtN0, fun l hl => ?_⟩)
  have s := ((s1.trans s2).trans s3).trans s4
  exact q l _ (s.trans (same_upd hl)) (s.free hl) upd_same
theorem lb_first {σ : L2.St} {u : TS} {nx bk ct : L2.St → Hp → Prop} {rt : VK} {j : Nat} {b : Int} {x3 x4 : Option V} (h2 : wd ∉ singleW) (hj : someW[j]? = some wd) (hn : ∀ m, m < j → someW[m]? ≠ some wd) (hs : σ = [some (.ref p), some (.str wd), some (.int b), x3, x4]) {t : TS}
    (q : ∀ l H', Same H H' → u ⟨nx, rt, bk, ct⟩ [some (.ref p), some (.str wd), some (.int b), some (.ref l), some (.int (16 + 16 * (j : Int) + b))] H') :
    tSeq (tIfS (tTest (tOp ((rIn K false)) (tVar 1) (tLst (R.strL singleW)))) t tNext) (tSeq (tAsg (tLst (R.strL someW)) (gName 3)) (tSeq (tAsg (tOp (rAddA K) (tOp (rAddA K) (tC (.int 16)) (tOp (rMulA) (tC (.int 16)) (tBM K "list" (rIndex K) (tVar 3) (tCons (tVar 1) tNil)))) (tVar 2)) (gName 4)) u)) ⟨nx, rt, bk, ct⟩ σ H := by
  subst hs
  refine R.seq (R.inN singleW h2 fun H1 s1 => R.next ?_)
  refine R.seq (R.asg (R.lst (R.strL_ok someW ⟨by decide, fun l hl => R.gName ?_⟩)))
  refine R.seq (R.asg (R.op (R.op (R.c (R.op (R.c (R.bm (R.var (R.tyL upd_same ?_)))))))))
  refine R.cons (R.var (R.nil (R.lstIx (ws := someW) (SqL.of upd_same) hj hn (R.mulI (R.cmul1 (by decide) (by decide)) (R.addI (R.var (R.addI (R.gName ?_))))))))
  exact q l _ (s1.trans (same_upd hl))
theorem lb_numb {j r : Nat} {n : Int} (hp : SqT K H p [.str wd, .str (bxN r), .int n]) (h0 : wd ∉ aloneW) (h1 : wd ∉ targetW) (h2 : wd ∉ singleW) (hj : someW[j]? = some wd) (hn : ∀ m, m < j → someW[m]? ≠ some wd) (h3 : wd ∈ numbW) (hr : r < 4) (q : ∀ l H', Same H H' → H l = none → H' l = some (.lst [.int (16 + 16 * (j : Int) + 4 * (r : Int)), .int n]) → Q (.ref l) H') : t_law_bytes K w { nx := fun _ H' => Q .non H', rt := Q } (start N_law_bytes [.ref p]) H := by
  unfold t_law_bytes
  refine R.seq (R.asg (R.rw0 hp (R.gName ?_)))
  refine R.seq (R.inN aloneW h0 fun H1 s1 => R.next ?_)
  refine R.seq (R.inN targetW h1 fun H2 s2 => R.next ?_)
  have hp2 := SqT.mono (s1.trans s2) hp
  refine R.seq (R.asg (R.op (R.c (R.boxIx hr (fun Q2 q2 => R.rw1 hp2 q2) (R.mulI (R.cmul1 (by decide) (by decide)) (R.gName ?_))))))
  refine lb_first h2 hj hn rfl fun l1 H3 s3 => ?_
  refine R.seq (R.inY numbW h3 fun H4 s4 => ?_)
  have s := ((s1.trans s2).trans s3).trans s4
  refine R.ret (R.lst (R.cons (R.var (R.cons (R.rw2 (SqT.mono s hp) (R.nil ⟨by k_caughtN0, fun l hl => ?_⟩))))))
  exact q l _ (s.trans (same_upd hl)) (s.free hl) upd_same
theorem lb_pair {j r s4 : Nat} (hp : SqT K H p [.str wd, .str (bxN r), .str (bxN s4)]) (h0 : wd ∉ aloneW) (h1 : wd ∉ targetW) (h2 : wd ∉ singleW) (hj : someW[j]? = some wd) (hn : ∀ m, m < j → someW[m]? ≠ some wd) (h3 : wd ∉ numbW) (hr : r < 4) (hs4 : s4 < 4) (q : ∀ l H', Same H H' → H l = none → H' l = some (.lst [.int (16 + 16 * (j : Int) + 4 * (r : Int) + (s4 : Nat))]) → Q (.ref l) H') : t_law_bytes K w { nx := fun _ H' => Q .non H', rt := Q } (start N_law_bytes [.ref p]) H := by
  unfold t_law_bytes
  refine R.seq (R.asg (R.rw0 hp (R.gName ?_)))
  refine R.seq (R.inN aloneW h0 fun H1 s1 => R.next ?_)
  refine R.seq (R.inN targetW h1 fun H2 s2 => R.next ?_)
  have hp2 := SqT.mono (s1.trans s2) hp
  refine R.seq (R.asg (R.op (R.c (R.boxIx hr (fun Q2 q2 => R.rw1 hp2 q2) (R.mulI (R.cmul1 (by decide) (by decide)) (R.gName ?_))))))
  refine lb_first h2 hj hn rfl fun l1 H3 s3 => ?_
  refine R.seq (R.inN numbW h3 fun H4 s4' => R.next ?_)
  have s := ((s1.trans s2).trans s3).trans s4'
  have hp4 := SqT.mono s hp
  refine R.ret (R.lst (R.cons (R.op (R.var (R.boxIx hs4 (fun Q2 q2 => R.rw2 hp4 q2) (R.addI (R.nil ⟨by k_caughtN0, fun l hl => ?_⟩)))))))
  exact q l _ (s.trans (same_upd hl)) (s.free hl) upd_same
end
section
variable {K : PySem.W.Frag} {w : World}
theorem pure_law_bytes {F : Prop} (_ : F) {vs : List V} {H : Hp} {Q : VK} {E : XK} (h : sp_law_bytes K w vs H Q E) : t_law_bytes K w { nx := fun _ H' => Q .non H', rt := Q } (start N_law_bytes vs) H := by
  obtain ⟨p, op, rfl, hp, ok, q⟩ := h
  cases op with
  | halt =>
    exact lb_alone hp (wd := "halt") (j := 0) rfl (fun m hm => absurd hm (Nat.not_lt_zero m)) fun l H2 s2 fl gl => q l H2 s2 fl (by rw [gl]; rfl)
  | back =>
    exact lb_alone hp (wd := "back") (j := 1) rfl (fun m hm => (by decide : ∀ m : Fin 1, aloneW[m.val]? ≠ some ("back" : Str)) ⟨m, hm⟩) fun l H2 s2 fl gl => q l H2 s2 fl (by rw [gl]; rfl)
  | rest =>
    exact lb_alone hp (wd := "rest") (j := 2) rfl (fun m hm => (by decide : ∀ m : Fin 2, aloneW[m.val]? ≠ some ("rest" : Str)) ⟨m, hm⟩) fun l H2 s2 fl gl => q l H2 s2 fl (by rw [gl]; rfl)
  | set r n =>
    exact lb_numb hp (wd := "set") (j := 0) (by decide : ("set" : Str) ∉ aloneW) (by decide : ("set" : Str) ∉ targetW) (by decide : ("set" : Str) ∉ singleW) rfl (fun m hm => absurd hm (Nat.not_lt_zero m)) (by decide : ("set" : Str) ∈ numbW) ok.1 fun l H2 s2 fl gl => q l H2 s2 fl (by
      rw [gl, show 16 + 16 * ((0 : Nat) : Int) + 4 * (r : Int) = 16 + 4 * (r : Int) by omega]
      rfl)
  | testn r n =>
    exact lb_numb hp (wd := "testn") (j := 8) (by decide : ("testn" : Str) ∉ aloneW) (by decide : ("testn" : Str) ∉ targetW) (by decide : ("testn" : Str) ∉ singleW) rfl (fun m hm => (by decide : ∀ m : Fin 8, someW[m.val]? ≠ some ("testn" : Str)) ⟨m, hm⟩) (by decide : ("testn" : Str) ∈ numbW) ok.1 fun l H2 s2 fl gl => q l H2 s2 fl (by
      rw [gl, show 16 + 16 * ((8 : Nat) : Int) + 4 * (r : Int) = 144 + 4 * (r : Int) by omega]
      rfl)
  | loadn r n =>
    exact lb_numb hp (wd := "loadn") (j := 11) (by decide : ("loadn" : Str) ∉ aloneW) (by decide : ("loadn" : Str) ∉ targetW) (by decide : ("loadn" : Str) ∉ singleW) rfl (fun m hm => (by decide : ∀ m : Fin 11, someW[m.val]? ≠ some ("loadn" : Str)) ⟨m, hm⟩) (by decide : ("loadn" : Str) ∈ numbW) ok.1 fun l H2 s2 fl gl => q l H2 s2 fl (by
      rw [gl, show 16 + 16 * ((11 : Nat) : Int) + 4 * (r : Int) = 192 + 4 * (r : Int) by omega]
      rfl)
  | storen r n =>
    exact lb_numb hp (wd := "storen") (j := 12) (by decide : ("storen" : Str) ∉ aloneW) (by decide : ("storen" : Str) ∉ targetW) (by decide : ("storen" : Str) ∉ singleW) rfl (fun m hm => (by decide : ∀ m : Fin 12, someW[m.val]? ≠ some ("storen" : Str)) ⟨m, hm⟩) (by decide : ("storen" : Str) ∈ numbW) ok.1 fun l H2 s2 fl gl => q l H2 s2 fl (by
      rw [gl, show 16 + 16 * ((12 : Nat) : Int) + 4 * (r : Int) = 208 + 4 * (r : Int) by omega]
      rfl)
  | copy r s =>
    exact lb_pair hp (wd := "copy") (j := 1) (by decide : ("copy" : Str) ∉ aloneW) (by decide : ("copy" : Str) ∉ targetW) (by decide : ("copy" : Str) ∉ singleW) rfl (fun m hm => (by decide : ∀ m : Fin 1, someW[m.val]? ≠ some ("copy" : Str)) ⟨m, hm⟩) (by decide : ("copy" : Str) ∉ numbW) ok.1 ok.2 fun l H2 s2 fl gl => q l H2 s2 fl (by
      rw [gl, show 16 + 16 * ((1 : Nat) : Int) + 4 * (r : Int) + ((s : Nat) : Int) = 32 + 4 * (r : Int) + (s : Int) by omega]
      rfl)
  | test r s =>
    exact lb_pair hp (wd := "test") (j := 7) (by decide : ("test" : Str) ∉ aloneW) (by decide : ("test" : Str) ∉ targetW) (by decide : ("test" : Str) ∉ singleW) rfl (fun m hm => (by decide : ∀ m : Fin 7, someW[m.val]? ≠ some ("test" : Str)) ⟨m, hm⟩) (by decide : ("test" : Str) ∉ numbW) ok.1 ok.2 fun l H2 s2 fl gl => q l H2 s2 fl (by
      rw [gl, show 16 + 16 * ((7 : Nat) : Int) + 4 * (r : Int) + ((s : Nat) : Int) = 128 + 4 * (r : Int) + (s : Int) by omega]
      rfl)
  | load r s =>
    exact lb_pair hp (wd := "load") (j := 9) (by decide : ("load" : Str) ∉ aloneW) (by decide : ("load" : Str) ∉ targetW) (by decide : ("load" : Str) ∉ singleW) rfl (fun m hm => (by decide : ∀ m : Fin 9, someW[m.val]? ≠ some ("load" : Str)) ⟨m, hm⟩) (by decide : ("load" : Str) ∉ numbW) ok.1 ok.2 fun l H2 s2 fl gl => q l H2 s2 fl (by
      rw [gl, show 16 + 16 * ((9 : Nat) : Int) + 4 * (r : Int) + ((s : Nat) : Int) = 160 + 4 * (r : Int) + (s : Int) by omega]
      rfl)
  | store r s =>
    exact lb_pair hp (wd := "store") (j := 10) (by decide : ("store" : Str) ∉ aloneW) (by decide : ("store" : Str) ∉ targetW) (by decide : ("store" : Str) ∉ singleW) rfl (fun m hm => (by decide : ∀ m : Fin 10, someW[m.val]? ≠ some ("store" : Str)) ⟨m, hm⟩) (by decide : ("store" : Str) ∉ numbW) ok.1 ok.2 fun l H2 s2 fl gl => q l H2 s2 fl (by
      rw [gl, show 16 + 16 * ((10 : Nat) : Int) + 4 * (r : Int) + ((s : Nat) : Int) = 176 + 4 * (r : Int) + (s : Int) by omega]
      rfl)
  | sum a2 r s =>
    cases a2
    ·
      exact lb_pair hp (wd := "sub") (j := 3) (by decide : ("sub" : Str) ∉ aloneW) (by decide : ("sub" : Str) ∉ targetW) (by decide : ("sub" : Str) ∉ singleW) rfl (fun m hm => (by decide : ∀ m : Fin 3, someW[m.val]? ≠ some ("sub" : Str)) ⟨m, hm⟩) (by decide : ("sub" : Str) ∉ numbW) ok.1 ok.2 fun l H2 s2 fl gl => q l H2 s2 fl (by
        rw [gl, show 16 + 16 * ((3 : Nat) : Int) + 4 * (r : Int) + ((s : Nat) : Int) = 64 + 4 * (r : Int) + (s : Int) by omega]
        rfl)
    ·
      exact lb_pair hp (wd := "add") (j := 2) (by decide : ("add" : Str) ∉ aloneW) (by decide : ("add" : Str) ∉ targetW) (by decide : ("add" : Str) ∉ singleW) rfl (fun m hm => (by decide : ∀ m : Fin 2, someW[m.val]? ≠ some ("add" : Str)) ⟨m, hm⟩) (by decide : ("add" : Str) ∉ numbW) ok.1 ok.2 fun l H2 s2 fl gl => q l H2 s2 fl (by
        rw [gl, show 16 + 16 * ((2 : Nat) : Int) + 4 * (r : Int) + ((s : Nat) : Int) = 48 + 4 * (r : Int) + (s : Int) by omega]
        rfl)
  | bits k r s =>
    rcases fin3 k with rfl | rfl | rfl
    ·
      exact lb_pair hp (wd := "and") (j := 4) (by decide : ("and" : Str) ∉ aloneW) (by decide : ("and" : Str) ∉ targetW) (by decide : ("and" : Str) ∉ singleW) rfl (fun m hm => (by decide : ∀ m : Fin 4, someW[m.val]? ≠ some ("and" : Str)) ⟨m, hm⟩) (by decide : ("and" : Str) ∉ numbW) ok.1 ok.2 fun l H2 s2 fl gl => q l H2 s2 fl (by
        rw [gl, show 16 + 16 * ((4 : Nat) : Int) + 4 * (r : Int) + ((s : Nat) : Int) = 80 + 16 * ((0 : Nat) : Int) + 4 * (r : Int) + (s : Int) by omega]
        rfl)
    ·
      exact lb_pair hp (wd := "or") (j := 5) (by decide : ("or" : Str) ∉ aloneW) (by decide : ("or" : Str) ∉ targetW) (by decide : ("or" : Str) ∉ singleW) rfl (fun m hm => (by decide : ∀ m : Fin 5, someW[m.val]? ≠ some ("or" : Str)) ⟨m, hm⟩) (by decide : ("or" : Str) ∉ numbW) ok.1 ok.2 fun l H2 s2 fl gl => q l H2 s2 fl (by
        rw [gl, show 16 + 16 * ((5 : Nat) : Int) + 4 * (r : Int) + ((s : Nat) : Int) = 80 + 16 * ((1 : Nat) : Int) + 4 * (r : Int) + (s : Int) by omega]
        rfl)
    ·
      exact lb_pair hp (wd := "xor") (j := 6) (by decide : ("xor" : Str) ∉ aloneW) (by decide : ("xor" : Str) ∉ targetW) (by decide : ("xor" : Str) ∉ singleW) rfl (fun m hm => (by decide : ∀ m : Fin 6, someW[m.val]? ≠ some ("xor" : Str)) ⟨m, hm⟩) (by decide : ("xor" : Str) ∉ numbW) ok.1 ok.2 fun l H2 s2 fl gl => q l H2 s2 fl (by
        rw [gl, show 16 + 16 * ((6 : Nat) : Int) + 4 * (r : Int) + ((s : Nat) : Int) = 80 + 16 * ((2 : Nat) : Int) + 4 * (r : Int) + (s : Int) by omega]
        rfl)
  | go k t =>
    rcases fin5 k with rfl | rfl | rfl | rfl | rfl
    ·
      exact lb_target hp (wd := "go") (j := 0) (by decide : ("go" : Str) ∉ aloneW) rfl (fun m hm => absurd hm (Nat.not_lt_zero m)) fun l H2 s2 fl gl => q l H2 s2 fl (by rw [gl]; rfl)
    ·
      exact lb_target hp (wd := "zero") (j := 1) (by decide : ("zero" : Str) ∉ aloneW) rfl (fun m hm => (by decide : ∀ m : Fin 1, targetW[m.val]? ≠ some ("zero" : Str)) ⟨m, hm⟩) fun l H2 s2 fl gl => q l H2 s2 fl (by rw [gl]; rfl)
    ·
      exact lb_target hp (wd := "nonzero") (j := 2) (by decide : ("nonzero" : Str) ∉ aloneW) rfl (fun m hm => (by decide : ∀ m : Fin 2, targetW[m.val]? ≠ some ("nonzero" : Str)) ⟨m, hm⟩) fun l H2 s2 fl gl => q l H2 s2 fl (by rw [gl]; rfl)
    ·
      exact lb_target hp (wd := "less") (j := 3) (by decide : ("less" : Str) ∉ aloneW) rfl (fun m hm => (by decide : ∀ m : Fin 3, targetW[m.val]? ≠ some ("less" : Str)) ⟨m, hm⟩) fun l H2 s2 fl gl => q l H2 s2 fl (by rw [gl]; rfl)
    ·
      exact lb_target hp (wd := "notless") (j := 4) (by decide : ("notless" : Str) ∉ aloneW) rfl (fun m hm => (by decide : ∀ m : Fin 4, targetW[m.val]? ≠ some ("notless" : Str)) ⟨m, hm⟩) fun l H2 s2 fl gl => q l H2 s2 fl (by rw [gl]; rfl)
  | call t =>
    exact lb_target hp (wd := "call") (j := 5) (by decide : ("call" : Str) ∉ aloneW) rfl (fun m hm => (by decide : ∀ m : Fin 5, targetW[m.val]? ≠ some ("call" : Str)) ⟨m, hm⟩) fun l H2 s2 fl gl => q l H2 s2 fl (by rw [gl]; rfl)
  | inn r =>
    exact lb_single hp (wd := "in") (j := 0) (by decide : ("in" : Str) ∉ aloneW) (by decide : ("in" : Str) ∉ targetW) rfl (fun m hm => absurd hm (Nat.not_lt_zero m)) ok fun l H2 s2 fl gl => q l H2 s2 fl (by
      rw [gl, show 240 + 4 * (r : Int) + ((0 : Nat) : Int) = 240 + 4 * (r : Int) by omega]
      rfl)
  | out r =>
    exact lb_single hp (wd := "out") (j := 1) (by decide : ("out" : Str) ∉ aloneW) (by decide : ("out" : Str) ∉ targetW) rfl (fun m hm => (by decide : ∀ m : Fin 1, singleW[m.val]? ≠ some ("out" : Str)) ⟨m, hm⟩) ok fun l H2 s2 fl gl => q l H2 s2 fl (by
      rw [gl, show 240 + 4 * (r : Int) + ((1 : Nat) : Int) = 241 + 4 * (r : Int) by omega]
      rfl)
  | keep r =>
    exact lb_single hp (wd := "keep") (j := 2) (by decide : ("keep" : Str) ∉ aloneW) (by decide : ("keep" : Str) ∉ targetW) rfl (fun m hm => (by decide : ∀ m : Fin 2, singleW[m.val]? ≠ some ("keep" : Str)) ⟨m, hm⟩) ok fun l H2 s2 fl gl => q l H2 s2 fl (by
      rw [gl, show 240 + 4 * (r : Int) + ((2 : Nat) : Int) = 242 + 4 * (r : Int) by omega]
      rfl)
  | take r =>
    exact lb_single hp (wd := "take") (j := 3) (by decide : ("take" : Str) ∉ aloneW) (by decide : ("take" : Str) ∉ targetW) rfl (fun m hm => (by decide : ∀ m : Fin 3, singleW[m.val]? ≠ some ("take" : Str)) ⟨m, hm⟩) ok fun l H2 s2 fl gl => q l H2 s2 fl (by
      rw [gl, show 240 + 4 * (r : Int) + ((3 : Nat) : Int) = 243 + 4 * (r : Int) by omega]
      rfl)
end
end Rl
namespace Rl
open PySem PySem.Spec PyProof.Rows L2
/-! ## codes of rows, drawn: rows, laid, the code -/
abbrev pairW : List Str := ["copy", "add", "sub", "and", "or", "xor", "test", "load", "store"]
theorem numb_op {i : Nat} {x : Str} {r : Nat} {n : Int} (h : numbW[i]? = some x) (hr : r < 4) (hn : 0 ≤ n ∧ n < 256) : ∃ op : Op, op.vals = [.str x, .str (bxN r), .int n] ∧ op.Ok := by
  match i, h with
  | 0, rfl => exact ⟨.set r n, rfl, hr, hn⟩
  | 1, rfl => exact ⟨.testn r n, rfl, hr, hn⟩
  | 2, rfl => exact ⟨.loadn r n, rfl, hr, hn⟩
  | 3, rfl => exact ⟨.storen r n, rfl, hr, hn⟩
theorem pair_op {i : Nat} {x : Str} {r s : Nat} (h : pairW[i]? = some x) (hr : r < 4) (hs : s < 4) : ∃ op : Op, op.vals = [.str x, .str (bxN r), .str (bxN s)] ∧ op.Ok := by
  match i, h with
  | 0, rfl => exact ⟨.copy r s, rfl, hr, hs⟩
  | 1, rfl => exact ⟨.sum true r s, rfl, hr, hs⟩
  | 2, rfl => exact ⟨.sum false r s, rfl, hr, hs⟩
  | 3, rfl => exact ⟨.bits 0 r s, rfl, hr, hs⟩
  | 4, rfl => exact ⟨.bits 1 r s, rfl, hr, hs⟩
  | 5, rfl => exact ⟨.bits 2 r s, rfl, hr, hs⟩
  | 6, rfl => exact ⟨.test r s, rfl, hr, hs⟩
  | 7, rfl => exact ⟨.load r s, rfl, hr, hs⟩
  | 8, rfl => exact ⟨.store r s, rfl, hr, hs⟩
theorem target_op {i : Nat} {x : Str} {t : Int} (h : targetW[i]? = some x) (ht : 0 ≤ t ∧ t < 256) : ∃ op : Op, op.vals = [.str x, .int t] ∧ op.Ok := by
  match i, h with
  | 0, rfl => exact ⟨.go 0 t, rfl, ht⟩
  | 1, rfl => exact ⟨.go 1 t, rfl, ht⟩
  | 2, rfl => exact ⟨.go 2 t, rfl, ht⟩
  | 3, rfl => exact ⟨.go 3 t, rfl, ht⟩
  | 4, rfl => exact ⟨.go 4 t, rfl, ht⟩
  | 5, rfl => exact ⟨.call t, rfl, ht⟩
theorem single_op {i : Nat} {x : Str} {r : Nat} (h : singleW[i]? = some x) (hr : r < 4) : ∃ op : Op, op.vals = [.str x, .str (bxN r)] ∧ op.Ok := by
  match i, h with
  | 0, rfl => exact ⟨.inn r, rfl, hr⟩
  | 1, rfl => exact ⟨.out r, rfl, hr⟩
  | 2, rfl => exact ⟨.keep r, rfl, hr⟩
  | 3, rfl => exact ⟨.take r, rfl, hr⟩
theorem alone_op {i : Nat} {x : Str} (h : aloneW[i]? = some x) : ∃ op : Op, op.vals = [.str x] ∧ op.Ok := by
  match i, h with
  | 0, rfl => exact ⟨.halt, rfl, trivial⟩
  | 1, rfl => exact ⟨.back, rfl, trivial⟩
  | 2, rfl => exact ⟨.rest, rfl, trivial⟩
/-- a row that goes elsewhere, or none -/
theorem op_kind : ∀ op : Op, op.Ok → (∃ (w : Str) (t : Int), op.vals = [.str w, .int t] ∧ ∀ t' : Int, 0 ≤ t' ∧ t' < 256 → ∃ op' : Op, op'.vals = [.str w, .int t'] ∧ op'.Ok) ∨ (∃ w x : Str, op.vals = [.str w, .str x]) ∨ op.vals.length ≠ 2
  | .go k t, _ => .inl ⟨goW k, t, rfl, fun t' h => ⟨.go k t', rfl, h⟩⟩
  | .call t, _ => .inl ⟨"call", t, rfl, fun t' h => ⟨.call t', rfl, h⟩⟩
  | .inn r, _ => .inr (.inl ⟨"in", bxN r, rfl⟩)
  | .out r, _ => .inr (.inl ⟨"out", bxN r, rfl⟩)
  | .keep r, _ => .inr (.inl ⟨"keep", bxN r, rfl⟩)
  | .take r, _ => .inr (.inl ⟨"take", bxN r, rfl⟩)
  | .halt, _ => .inr (.inr (by intro h; cases h))
  | .back, _ => .inr (.inr (by intro h; cases h))
  | .rest, _ => .inr (.inr (by intro h; cases h))
  | .set .., _ => .inr (.inr (by intro h; cases h))
  | .copy .., _ => .inr (.inr (by intro h; cases h))
  | .sum .., _ => .inr (.inr (by intro h; cases h))
  | .bits .., _ => .inr (.inr (by intro h; cases h))
  | .test .., _ => .inr (.inr (by intro h; cases h))
  | .testn .., _ => .inr (.inr (by intro h; cases h))
  | .load .., _ => .inr (.inr (by intro h; cases h))
  | .loadn .., _ => .inr (.inr (by intro h; cases h))
  | .store .., _ => .inr (.inr (by intro h; cases h))
  | .storen .., _ => .inr (.inr (by intro h; cases h))
theorem bytes_by : ∀ op : Op, op.Ok → By op.bytes ∧ op.bytes.length ≤ 2 := fun op h => by
  refine ⟨fun x hx => ?_, ?_⟩
  · cases op <;> simp only [Op.bytes, Op.fst, Op.snd, Op.Ok, List.mem_cons, List.not_mem_nil, or_false] at hx h <;> first
      | omega
      | (rename_i a _ _; cases a <;> simp at hx <;> omega)
      | (rename_i k _ _; have := k.isLt; omega)
      | (rename_i k _; have := k.isLt; omega)
  · cases op <;> simp only [Op.bytes, Op.snd, List.length_cons, List.length_nil] <;> omega
section
variable {K : PySem.W.Frag} {w : World}
theorem R.abcd {H : Hp} {Q : VK} {i : Int} (h0 : 0 ≤ i) (h4 : i < 4) (q : Q (.str (bxN i.toNat)) H) : rIx K (.str "abcd") (.int i) H Q := by
  obtain rfl | rfl | rfl | rfl : i = 0 ∨ i = 1 ∨ i = 2 ∨ i = 3 := by omega
  · exact R.ixS (k := 97) (by decide) (by decide +kernel) q
  · exact R.ixS (k := 98) (by decide) (by decide +kernel) q
  · exact R.ixS (k := 99) (by decide) (by decide +kernel) q
  · exact R.ixS (k := 100) (by decide) (by decide +kernel) q
theorem R.wordAt {H : Hp} {Q : VK} {p : Addr} {i : Int} {ws : List Str} (h : SqL K H p (ws.map V.str)) (h0 : 0 ≤ i) (h1 : i < ws.length) (q : ∀ x, ws[i.toNat]? = some x → Q (.str x) H) : rIx K (.ref p) (.int i) H Q := by
  refine R.ixLV h h0 (by rw [List.length_map]; exact h1) fun m hm _ => ?_
  rw [List.getElem?_map] at hm
  cases e : ws[i.toNat]? with
  | none =>
    rw [e] at hm
    cases hm
  | some x =>
    rw [e] at hm
    obtain rfl : V.str x = m := Option.some.inj hm
    exact q x e
/-- a word of a written list, drawn -/
theorem R.wordDraw {σ : L2.St} {H : Hp} {Q : VK} {r : Addr} (ws : List Str) {k : Int} (hS : Spr H r) (hk : (ws.length : Int) = k) (h0 : 0 < k) (h1 : k < 1000) (q : ∀ (H' : Hp) (i : Nat) (x : Str), Fx r H H' → Spr H' r → ws[i]? = some x → Q (.str x) H') (hs : σ[0]? = some (some (.ref r)) := by with_unfolding_all rfl) :
    tOp (rIx K) (tLst (R.strL ws)) (tCall (sp_law_draw K w) [] E0 (tCons (tVar 0) (tCons (tC (.int k)) tNil))) σ H Q := by
  refine R.op (R.lst (R.strL_ok ws ⟨by rw [List.length_map]; exact Nat.le_trans (m := 1000) (by omega) (by decide), fun l hl => ?_⟩))
  refine R.call (R.cons (R.var (R.cons (R.c (R.nil ?_))) hs))
  refine ⟨r, k, rfl, hS.keep (same_upd hl), h0, by omega, fun n H2 f2 S2 n0 n1 => ?_⟩
  refine R.wordAt (SqL.of (f2.at (hS.ne hl) upd_same)) n0 (by omega) fun x hx => ?_
  exact q H2 _ x (Fx.trans (Same.but (same_upd hl)) f2) S2 hx
theorem row_new {H : Hp} {r p : Addr} {op : Op} {xs : List V} (hS : Spr H r) (hp : H p = none) (e : op.vals = xs) (ok : op.Ok) : RowV (upd H p (.tup xs)) r (.ref p) := ⟨p, op, rfl, hS.ne hp, by rw [e]; exact upd_same, ok⟩
theorem pure_law_drawn_row {F : Prop} (_ : F) {vs : List V} {H : Hp} {Q : VK} {E : XK} (h : sp_law_drawn_row K w vs H Q E) : t_law_drawn_row K w { nx := fun _ H' => Q .non H', rt := Q } (start N_law_drawn_row vs) H := by
  obtain ⟨r, rfl, hS, q⟩ := h
  unfold t_law_drawn_row
  refine R.seq (R.par (R.cons (R.op (R.c (R.call (R.cons (R.var (R.cons (R.c (R.nil ?_)))))))))) 
  refine ⟨r, 4, rfl, hS, by decide, by decide, fun a H1 f1 S1 a0 a1 => R.abcd a0 a1 ?_⟩
  refine R.cons (R.op (R.c (R.call (R.cons (R.var (R.cons (R.c (R.nil ?_))))))))
  refine ⟨r, 4, rfl, S1, by decide, by decide, fun b H2 f2 S2 b0 b1 => R.abcd b0 b1 ?_⟩
  refine R.nil (R.ex2 ?_)
  have ra : a.toNat < 4 := by omega
  have rb : b.toNat < 4 := by omega
  refine R.seq (R.asg (R.op (R.lst (R.cons (R.call (R.cons (R.var (R.cons (R.c (R.nil ?_)))))))))) 
  refine ⟨r, 4, rfl, S2, by decide, by decide, fun c H3 f3 S3 c0 c1 => ?_⟩
  refine R.cons (R.call (R.cons (R.var (R.cons (R.c (R.nil ?_))))))
  refine ⟨r, 256, rfl, S3, by decide, by decide, fun d H4 f4 S4 d0 d1 => ?_⟩
  refine R.cons (R.op (R.c (R.call (R.cons (R.var (R.cons (R.c (R.nil ?_))))))))
  refine ⟨r, 3, rfl, S4, by decide, by decide, fun e H5 f5 S5 e0 e1 => R.subI (R.nil ⟨by k_caughtN0, fun l hl => ?_⟩)⟩
  refine R.call (R.cons (R.var (R.cons (R.c (R.nil ?_)))))
  refine ⟨r, 3, rfl, S5.keep (same_upd hl), by decide, by decide, fun g H6 f6 S6 g0 g1 => ?_⟩
  refine R.ixLI (ns := [c, d, 255 - e]) (SqL.of (f6.at (S5.ne hl) upd_same)) g0 g1 ?_
  intro n _ hn
  have hn2 : 0 ≤ n ∧ n < 256 := by
    simp at hn
    omega
  have F6 : Fx r H H6 := f1.trans (f2.trans (f3.trans (f4.trans (f5.trans (Fx.trans (Same.but (same_upd hl)) f6)))))
  clear f1 f2 f3 f4 f5 f6 hl hn S1 S2 S3 S4 S5
  refine R.gName ?_
  refine R.seq (R.asg (R.call (R.cons (R.var (R.cons (R.c (R.nil ?_)))))))
  refine ⟨r, 12, rfl, S6, by decide, by decide, fun pick H7 f7 S7 p0 p1 => R.gName ?_⟩
  have F7 := F6.trans f7
  refine R.seq (R.ifS (R.test (R.op (R.var (R.c (R.ltI (R.bl (R.iD (fun _ => ?_) (fun _ => R.next ?_)))))))))
  · refine R.ret (R.tup (R.cons (R.wordDraw numbW S7 rfl (by decide) (by decide) fun H8 i x f8 S8 hx => ?_)))
    obtain ⟨op, ev, ok⟩ := numb_op hx ra hn2
    refine R.cons (R.var (R.cons (R.var (R.nil ⟨by k_caughtN0, fun p hp => ?_⟩))))
    exact q _ _ (F7.trans (f8.trans (Same.but (same_upd hp)))) (S8.keep (same_upd hp)) (row_new S8 hp ev ok)
  refine R.seq (R.ifS (R.test (R.op (R.var (R.c (R.ltI (R.bl (R.iD (fun _ => ?_) (fun _ => R.next ?_)))))))))
  · refine R.seq (R.asg (R.lst (R.strL_ok pairW ⟨by decide, fun l hl => R.gName ?_⟩)))
    refine R.ret (R.tup (R.cons (R.op (R.var (R.call (R.cons (R.var (R.cons (R.c (R.nil ?_)))))))))) 
    refine ⟨r, 9, rfl, S7.keep (same_upd hl), by decide, by decide, fun i H8 f8 S8 i0 i1 => ?_⟩
    refine R.wordAt (ws := pairW) (SqL.of (f8.at (S7.ne hl) upd_same)) i0 i1 fun x hx => ?_
    obtain ⟨op, ev, ok⟩ := pair_op hx ra rb
    refine R.cons (R.var (R.cons (R.var (R.nil ⟨by k_caughtN0, fun p hp => ?_⟩))))
    exact q _ _ (F7.trans (Fx.trans (Same.but (same_upd hl)) (f8.trans (Same.but (same_upd hp))))) (S8.keep (same_upd hp)) (row_new S8 hp ev ok)
  refine R.seq (R.ifS (R.test (R.op (R.var (R.c (R.ltI (R.bl (R.iD (fun _ => ?_) (fun _ => R.next ?_)))))))))
  · refine R.ret (R.tup (R.cons (R.wordDraw targetW S7 rfl (by decide) (by decide) fun H8 i x f8 S8 hx => ?_)))
    obtain ⟨op, ev, ok⟩ := target_op (t := 0) hx (by decide)
    refine R.cons (R.c (R.nil ⟨by k_caughtN0, fun p hp => ?_⟩))
    exact q _ _ (F7.trans (f8.trans (Same.but (same_upd hp)))) (S8.keep (same_upd hp)) (row_new S8 hp ev ok)
  refine R.seq (R.ifS (R.test (R.op (R.var (R.c (R.ltI (R.bl (R.iD (fun _ => ?_) (fun _ => R.next ?_)))))))))
  · refine R.ret (R.tup (R.cons (R.wordDraw singleW S7 rfl (by decide) (by decide) fun H8 i x f8 S8 hx => ?_)))
    obtain ⟨op, ev, ok⟩ := single_op hx ra
    refine R.cons (R.var (R.nil ⟨by k_caughtN0, fun p hp => ?_⟩))
    exact q _ _ (F7.trans (f8.trans (Same.but (same_upd hp)))) (S8.keep (same_upd hp)) (row_new S8 hp ev ok)
  · refine R.ret (R.tup (R.cons (R.wordDraw aloneW S7 rfl (by decide) (by decide) fun H8 i x f8 S8 hx => ?_)))
    obtain ⟨op, ev, ok⟩ := alone_op hx
    refine R.nil ⟨by k_caughtN0, fun p hp => ?_⟩
    exact q _ _ (F7.trans (f8.trans (Same.but (same_upd hp)))) (S8.keep (same_upd hp)) (row_new S8 hp ev ok)
end
end Rl
namespace Rl
open PySem PySem.Spec PyProof.Rows L2
section
variable {K : PySem.W.Frag} {w : World}
theorem By.appS {a b : List Int} (h : By a) (g : By b) : By (a ++ b) := fun n hn => (List.mem_append.mp hn).elim (h n) (g n)
/-- [.. for k in range(n)], each drawn: a new list -/
theorem lcS {σ : L2.St} {H : Hp} {Q : VK} {te : TE} {j : Nat} {lo : Int} {m : Nat} {r : Addr} (P : Hp → V → Prop) (Pfx : ∀ H H' v, P H v → Fx r H H' → P H' v) (Pmut : ∀ H D v xs o, P H v → H D = some (.lst xs) → P (upd H D o) v)
    (hS : Spr H r) (hm : m < 1000) (hw : ∀ x, wipe ((wipe σ [j]).set j (some x)) [j] = wipe σ [j])
    (he : ∀ i H', i < m → Spr H' r → ∀ Q' : VK, (∀ v H'', Fx r H' H'' → Spr H'' r → P H'' v → Q' v H'') → te ((wipe σ [j]).set j (some (.int (lo + (i : Nat))))) H' Q')
    (q : ∀ D H' vs, H D = none → D ≠ r → Fx r H H' → Spr H' r → H' D = some (.lst vs) → vs.length = m → (∀ v ∈ vs, P H' v) → Q (.ref D) H') : ∀ D, H D = none → R.LcLoop (Itr lo m) (L2.gName j) tYes te [j] σ D H Q := by
  intro D hD
  have nD : D ≠ r := hS.ne hD
  refine R.lcI walk_range (fun i H' => ∃ vs : List V, Fx r H H' ∧ Spr H' r ∧ H' D = some (.lst vs) ∧ vs.length = i ∧ ∀ v ∈ vs, P H' v) ⟨[], Same.but (same_upd hD), hS.keep (same_upd hD), upd_same, rfl, fun _ z => (nomatch z)⟩ (fun _ _ _ _ => True.intro) ?_ ?_
  · rintro i x H1 H' hi ⟨vs, f1, S1, gD, hl, hP⟩ ⟨rfl, rfl⟩
    refine ⟨hw _, R.yes (iteT ?_)⟩
    refine he i _ hi S1 _ fun v H2 f2 S2 p2 => ?_
    have g2 := f2.at nD gD
    refine ⟨vs, g2, Nat.lt_of_le_of_lt (m := 1000) (by omega) (by decide), vs ++ [v], Fx.mutN hD (f1.trans f2), S2.mut nD, upd_same, by rw [List.length_append, hl]; rfl, fun y hy => ?_⟩
    rcases List.mem_append.mp hy with z | z
    · exact Pmut _ _ _ _ _ (Pfx _ _ _ (hP y z) f2) g2
    · rw [List.mem_singleton.mp z]
      exact Pmut _ _ _ _ _ p2 g2
  · rintro H' ⟨vs, f1, S1, gD, hl, hP⟩
    exact q D H' vs hD nD f1 S1 gD hl hP
theorem ints_of {vs : List V} (h : ∀ v ∈ vs, ∃ n : Int, v = .int n ∧ 0 ≤ n ∧ n < 256) : ∃ ds : List Int, vs = ds.map V.int ∧ By ds := by
  induction vs with
  | nil => exact ⟨[], rfl, fun _ z => (nomatch z)⟩
  | cons v vs ih =>
    obtain ⟨n, rfl, n0, n1⟩ := h v (List.mem_cons_self ..)
    obtain ⟨ds, rfl, hb⟩ := ih fun y hy => h y (List.mem_cons_of_mem _ hy)
    exact ⟨n :: ds, rfl, fun x hx => (List.mem_cons.mp hx).elim (fun z => z ▸ ⟨n0, n1⟩) (hb x)⟩
theorem pure_law_laid {F : Prop} (_ : F) {vs : List V} {H : Hp} {Q : VK} {E : XK} (h : sp_law_laid K w vs H Q E) : t_law_laid K w { nx := fun _ H' => Q .non H', rt := Q } (start N_law_laid vs) H := by
  obtain ⟨r, l, xs, rfl, hS, nl, gl, hx, h1, h100, q⟩ := h
  unfold t_law_laid
  refine R.seq (R.asg (R.lst (R.nil ⟨by k_caughtN0, fun st hst => R.gName ?_⟩)))
  have nst : st ≠ r := hS.ne hst
  have nlst : l ≠ st := fun z => by rw [← z, gl] at hst; cases hst
  refine R.seq (R.asg (R.c (R.gName ?_)))
  refine R.seq (R.for' (R.seqIter (R.var ?_)))
  refine R.forL (xs := xs) (fun i σ H' => ∃ (far : Int) (ss : List Int) (v4 : Option V), σ = [some (.ref r), some (.ref l), some (.ref st), some (.int far), v4, none, none] ∧ Fx r H H' ∧ Spr H' r ∧ H' l = some (.lst xs) ∧ H' st = some (.lst (ss.map V.int)) ∧ 0 ≤ far ∧ far ≤ 2 * i ∧ ss.length = i ∧ (∀ s ∈ ss, 0 ≤ s ∧ s ≤ 2 * i) ∧ ∀ v ∈ xs, RowV H' r v)
    (SqL.of (upd_get hst gl)) ⟨0, [], _, rfl, Same.but (same_upd hst), hS.keep (same_upd hst), upd_get hst gl, upd_same, Int.le_refl _, by decide, rfl, fun _ z => (nomatch z), fun v hv => (hx v hv).same (same_upd hst)⟩ (fun i σ H' _ z => by
      obtain ⟨_, _, _, _, _, _, z, _⟩ := z
      exact SqL.of z) ?_ ?_
  · rintro i x σ H1 hxi hi ⟨far, ss, v4, rfl, f1, S1, gl1, gs1, far0, far1, hsl, hss, hr1⟩
    obtain ⟨p, op, rfl, np, gp, ok⟩ := hr1 x (List.mem_of_getElem? hxi)
    have npst : p ≠ st := fun z => by rw [z, gs1] at gp; cases gp
    refine R.gName ?_
    refine R.seq (R.drop (R.bm (R.var (R.tyL gs1 (R.cons (R.var (R.nil (R.appendI gs1 (Nat.lt_of_le_of_lt (m := 100) (by omega) (by decide)) ?_))))))))
    have S2 : Spr (upd H1 st (.lst ((ss ++ [far]).map V.int))) r := S1.mut nst
    have f2 : Fx r H (upd H1 st (.lst ((ss ++ [far]).map V.int))) := Fx.mutN hst f1
    have gl2 : (upd H1 st (.lst ((ss ++ [far]).map V.int))) l = some (.lst xs) := upd_mut nlst gl1
    have gs2 : (upd H1 st (.lst ((ss ++ [far]).map V.int))) st = some _ := upd_same
    have gp2 : (upd H1 st (.lst ((ss ++ [far]).map V.int))) p = some (.tup op.vals) := upd_mut npst gp
    have hr2 : ∀ v ∈ xs, RowV (upd H1 st (.lst ((ss ++ [far]).map V.int))) r v := fun v hv => (hr1 v hv).mut gs1
    generalize upd H1 st (.lst ((ss ++ [far]).map V.int)) = H2 at S2 f2 gl2 gs2 gp2 hr2 ⊢
    refine R.asg (R.op (R.var (R.cb (R.cons (R.call (R.cons (R.var (R.nil ?_))))))))
    refine ⟨p, op, rfl, SqT.of gp2, ok, fun lb H3 s3 hlb glb => R.nil (R.lenLI (SqL.of glb) (R.addI (R.gName ?_)))⟩
    have lb2 := (bytes_by op ok).2
    refine ⟨_, ss ++ [far], _, rfl, f2.trans (Same.but s3), S2.keep s3, s3 _ _ gl2, s3 _ _ gs2, by omega, by omega, by rw [List.length_append, hsl]; rfl, fun s hs => ?_, fun v hv => (hr2 v hv).same s3⟩
    rcases List.mem_append.mp hs with z | z
    · have := hss s z
      omega
    · rw [List.mem_singleton.mp z]
      omega
  rintro σ H1 ⟨far, ss, v4, rfl, f1, S1, gl1, gs1, far0, far1, hsl, hss, hr1⟩
  refine R.seq (R.asg (R.lst (R.nil ⟨by k_caughtN0, fun c0 hc0 => R.gName ?_⟩)))
  have nc0 : c0 ≠ r := S1.ne hc0
  have s2 : Same H1 (upd H1 c0 (.lst [])) := same_upd hc0
  refine R.seq (R.for' (R.seqIter (R.var ?_)))
  refine R.forL (xs := xs) (fun i σ H' => ∃ (cd : Addr) (ds : List Int) (v4 v6 : Option V), σ = [some (.ref r), some (.ref l), some (.ref st), some (.int far), v4, some (.ref cd), v6] ∧ Fx r H H' ∧ Spr H' r ∧ H' l = some (.lst xs) ∧ H' st = some (.lst (ss.map V.int)) ∧ cd ≠ r ∧ H cd = none ∧ H' cd = some (.lst (ds.map V.int)) ∧ By ds ∧ i ≤ ds.length ∧ ds.length ≤ 2 * i ∧ ∀ v ∈ xs, RowV H' r v)
    (SqL.of (s2 _ _ gl1)) ⟨c0, [], _, _, rfl, f1.trans (Same.but s2), S1.keep s2, s2 _ _ gl1, s2 _ _ gs1, nc0, Fx.freeS f1 S1 hc0, upd_same, fun _ z => (nomatch z), Nat.le_refl _, Nat.le_refl _, fun v hv => (hr1 v hv).same s2⟩ (fun i σ H' _ z => by
      obtain ⟨_, _, _, _, _, _, _, z, _⟩ := z
      exact SqL.of z) ?_ ?_
  · clear hr1 gs1 gl1 S1 f1 hc0 s2
    rintro i x σ H1 hxi hi ⟨cd, ds, v4, v6, rfl, f1, S1, gl1, gs1, ncd, hcd, gcd, hb, hd1, hd2, hr1⟩
    obtain ⟨p, op, rfl, np, gp, ok⟩ := hr1 x (List.mem_of_getElem? hxi)
    refine R.gName ?_
    refine R.seq (R.joinS (fun σ H' => ∃ (p' : Addr) (op' : Op) (v6 : Option V), σ = [some (.ref r), some (.ref l), some (.ref st), some (.int far), some (.ref p'), some (.ref cd), v6] ∧ Fx r H1 H' ∧ Spr H' r ∧ p' ≠ r ∧ H' p' = some (.tup op'.vals) ∧ op'.Ok) ?_ fun N key => ?_)
    · rintro σ H2 ⟨p', op', v6', rfl, f2, S2, np', gp', ok'⟩
      refine R.asg (R.op (R.var (R.call (R.cons (R.var (R.nil ?_))))))
      refine ⟨p', op', rfl, SqT.of gp', ok', fun lb H3 s3 hlb glb => ?_⟩
      have bb := bytes_by op' ok'
      have b1 : op'.bytes.length = op'.snd.length + 1 := rfl
      have gcd3 := s3 _ _ (f2.at ncd gcd)
      refine R.catI gcd3 glb (Nat.le_trans (m := 300) (by omega) (by decide)) fun c3 hc3 => R.gName ?_
      have s4 := s3.trans (same_upd (o := .lst ((ds ++ op'.bytes).map V.int)) hc3)
      have f4 : Fx r H1 _ := f2.trans (Same.but s4)
      refine ⟨c3, ds ++ op'.bytes, _, _, rfl, f1.trans f4, S2.keep s4, f4.at nl gl1, f4.at nst gs1, (S2.keep s3).ne hc3, ?_, upd_same, hb.appS bb.1, by rw [List.length_append]; omega, by rw [List.length_append]; omega, fun v hv => (hr1 v hv).fx f4⟩
      exact Fx.freeS ((f1.trans f2).trans (Same.but s3)) (S2.keep s3) hc3
    · have base : ∀ v6, N [some (.ref r), some (.ref l), some (.ref st), some (.int far), some (.ref p), some (.ref cd), v6] H1 := fun v6 => key _ _ ⟨p, op, v6, rfl, Fx.refl _ _, S1, np, gp, ok⟩
      refine R.ifS (R.and' (R.test (R.op (R.cb (R.cons (R.var (R.nil (R.lenT (SqT.of gp) (R.c (R.eqI (R.bl ?_))))))))))) 
      rcases op_kind op ok with ⟨wd, t, ev, hop⟩ | ⟨wd, y, ev⟩ | hne
      · rw [ev] at gp ⊢
        refine R.iT (R.tB' (R.cb (R.cons (R.op (R.var (R.c (R.ixT1 (SqT.of gp) (R.cons (R.c (R.nil ?_)))))))))) 
        refine R.isiD (d := .int t) (b := true) (.int t) rfl (R.bl (R.iT ?_))
        refine R.seq (R.asg (R.op (R.var (R.call (R.cons (R.var (R.cons (R.cb (R.cons (R.var (R.nil (R.lenLI (SqL.of gs1) (R.nil ?_)))))))))))))
        refine ⟨r, _, rfl, S1, by omega, by omega, fun n H2 f2 S2 n0 n1 => ?_⟩
        refine R.ixLI (SqL.of (f2.at nst gs1)) n0 n1 fun at' _ hat => R.gName ?_
        have hat2 := hss at' hat
        have gp2 := f2.at np gp
        refine R.asg (R.tup (R.cons (R.op (R.var (R.c (R.ixT0 (SqT.of gp2) (R.cons (R.op (R.lst (R.cons (R.var (R.cons (R.var (R.cons (R.var (R.cons (R.var ?_)))))))))))))))))
        refine R.cons (R.call (R.cons (R.var (R.cons (R.cb (R.cons (R.c (R.cons (R.op (R.var (R.c (R.addI (R.nil (R.min2 (R.nil ?_)))))))))))))))
        refine ⟨r, _, rfl, S2, by split <;> omega, by split <;> omega, fun g H3 f3 S3 g0 g1 => R.nil ⟨by k_caughtN0, fun l4 hl4 => ?_⟩⟩
        have g2 : g < 256 := by split at g1 <;> omega
        refine R.call (R.cons (R.var (R.cons (R.c (R.nil ?_)))))
        refine ⟨r, 5, rfl, S3.keep (same_upd hl4), by decide, by decide, fun k H4 f4 S4 k0 k1 => ?_⟩
        refine R.ixLI (ns := [at', at', at', at', g]) (SqL.of (f4.at (S3.ne hl4) upd_same)) k0 k1 fun t' _ ht' => ?_
        have ht2 : 0 ≤ t' ∧ t' < 256 := by
          simp at ht'
          omega
        obtain ⟨op', ev', ok'⟩ := hop t' ht2
        refine R.nil ⟨by k_caughtN0, fun p5 hp5 => R.gName ?_⟩
        refine key _ _ ⟨p5, op', _, rfl, f2.trans (f3.trans (Fx.trans (Same.but (same_upd hl4)) (f4.trans (Same.but (same_upd hp5))))), S4.keep (same_upd hp5), S4.ne hp5, by rw [ev']; exact upd_same, ok'⟩
      · have gp' := gp
        rw [ev] at gp' ⊢
        refine R.iT (R.tB' (R.cb (R.cons (R.op (R.var (R.c (R.ixT1 (SqT.of gp') (R.cons (R.c (R.nil ?_)))))))))) 
        refine R.isiD (d := .str y) (b := false) (.str y) rfl (R.bl (R.iF (R.next (base _))))
      · rw [decide_eq_false (by omega)]
        exact R.iF (R.iF (R.next (base _)))
  · rintro σ H2 ⟨cd, ds, v4, v6, rfl, f2, S2, gl2, gs2, ncd, hcd, gcd, hb, hd1, hd2, hr2⟩
    exact R.ret (R.var (q cd H2 ds hcd ncd f2 S2 gcd hb (by omega) (by omega)))
theorem pure_law_code {F : Prop} (_ : F) {vs : List V} {H : Hp} {Q : VK} {E : XK} (h : sp_law_code K w vs H Q E) : t_law_code K w { nx := fun _ H' => Q .non H', rt := Q } (start N_law_code vs) H := by
  obtain ⟨r, rfl, hS, q⟩ := h
  unfold t_law_code
  refine R.seq (R.asg (R.call (R.cons (R.var (R.cons (R.c (R.nil ?_)))))))
  refine ⟨r, 8, rfl, hS, by decide, by decide, fun pick H1 f1 S1 p0 p1 => R.gName ?_⟩
  refine R.seq (R.ifS (R.test (R.op (R.var (R.c (R.eqI (R.bl (R.iD (fun _ => ?_) (fun _ => R.next ?_)))))))))
  · refine R.ret (R.lc (R.rng1 (R.cons (R.op (R.c (R.call (R.cons (R.var (R.cons (R.op (R.lst (R.cons (R.c (R.cons (R.c (R.nil ⟨by k_caughtN0, fun l hl => ?_⟩))))))))))))))))
    refine R.call (R.cons (R.var (R.cons (R.c (R.nil ?_)))))
    refine ⟨r, 2, rfl, S1.keep (same_upd hl), by decide, by decide, fun i H2 f2 S2 i0 i1 => ?_⟩
    refine R.ixLI (ns := [8, 60]) (SqL.of (f2.at (S1.ne hl) upd_same)) i0 i1 fun m _ hm => R.nil ?_
    have hm2 : m = 8 ∨ m = 60 := by
      simp at hm
      exact hm
    refine ⟨r, m, rfl, S2, by omega, by omega, fun n H3 f3 S3 n0 n1 => R.addI (R.nil (R.rng1v (by omega) (by omega) ?_))⟩
    have F3 : Fx r H H3 := f1.trans (Fx.trans (Same.but (same_upd hl)) (f2.trans f3))
    refine lcS (fun _ v => ∃ n : Int, v = .int n ∧ 0 ≤ n ∧ n < 256) (fun _ _ _ h _ => h) (fun _ _ _ _ _ h _ => h) S3 (by omega) (fun _ => rfl) ?_ ?_
    · intro k H4 hk S4 Q' q'
      refine R.call (R.cons (R.var (R.cons (R.c (R.nil ?_)))))
      exact ⟨r, 256, rfl, S4, by decide, by decide, fun n H5 f5 S5 n0 n1 => q' _ H5 f5 S5 ⟨n, rfl, n0, n1⟩⟩
    · intro D H4 vs hD nD f4 S4 gD hl hP
      obtain ⟨ds, rfl, hb⟩ := ints_of hP
      rw [List.length_map] at hl
      exact q D H4 ds (Fx.freeS F3 S3 hD) nD (F3.trans f4) S4 gD hb (by omega) (by omega)
  refine R.seq (R.asg (R.op (R.lst (R.cons (R.c (R.cons (R.c (R.cons (R.c (R.cons (R.c (R.nil ⟨by k_caughtN0, fun l hl => ?_⟩)))))))))))) 
  refine R.call (R.cons (R.var (R.cons (R.c (R.nil ?_)))))
  refine ⟨r, 4, rfl, S1.keep (same_upd hl), by decide, by decide, fun i H2 f2 S2 i0 i1 => ?_⟩
  refine R.ixLI (ns := [6, 12, 30, 100]) (SqL.of (f2.at (S1.ne hl) upd_same)) i0 i1 fun most _ hmost => R.gName ?_
  have hm2 : 6 ≤ most ∧ most ≤ 100 := by
    simp at hmost
    omega
  have F2 : Fx r H H2 := f1.trans (Fx.trans (Same.but (same_upd hl)) f2)
  clear f1 f2 hl S1
  refine R.seq (R.asg (R.sl (R.call (R.cons (R.var (R.cons (R.lc (R.rng1 (R.cons (R.op (R.c (R.call (R.cons (R.var (R.cons (R.var (R.nil ?_)))))))))))))))))
  refine ⟨r, most, rfl, S2, by omega, by omega, fun n H3 f3 S3 n0 n1 => R.addI (R.nil (R.rng1v (by omega) (by omega) ?_))⟩
  have F3 := F2.trans f3
  refine lcS (RowV · r) (fun _ _ _ h f => h.fx f) (fun _ _ _ _ _ h g => h.mut g) S3 (by omega) (fun _ => rfl) ?_ ?_
  · intro k H4 hk S4 Q' q'
    refine R.call (R.cons (R.var (R.nil ?_)))
    exact ⟨r, rfl, S4, fun v H5 f5 S5 hv => q' v H5 f5 S5 hv⟩
  intro D H4 vs hD nD f4 S4 gD hl hP
  refine R.nil ⟨r, D, vs, rfl, S4, nD, gD, hP, by omega, by omega, fun p H5 ds hp np f5 S5 gp hb h1 h2 => ?_⟩
  have F5 := F3.trans (f4.trans f5)
  refine R.noPart (R.part (R.c (R.exI ?_)))
  refine R.slToI (SqL.of gp) (by decide) fun c hc => R.gName ?_
  rw [show ds.take (200 : Int).toNat = ds from List.take_of_length_le h2]
  have nc : c ≠ r := S5.ne hc
  have S6 := S5.keep (same_upd (o := .lst (ds.map V.int)) hc)
  have F6 : Fx r H (upd H5 c (.lst (ds.map V.int))) := F5.trans (Same.but (same_upd hc))
  have gc : (upd H5 c (.lst (ds.map V.int))) c = some _ := upd_same
  have hc0 : H c = none := Fx.freeS F5 S5 hc
  generalize upd H5 c (.lst (ds.map V.int)) = H6 at S6 F6 gc ⊢
  refine R.seq (R.ifS (R.test (R.op (R.var (R.c (R.eqI (R.bl (R.iD (fun _ => ?_) (fun _ => R.next ?_)))))))))
  · refine R.asg (R.call (R.cons (R.var (R.cons (R.c (R.nil ?_))))))
    refine ⟨r, 256, rfl, S6, by decide, by decide, fun b H7 f7 S7 b0 b1 => ?_⟩
    refine R.gSub (R.var (R.call (R.cons (R.var (R.cons (R.cb (R.cons (R.var (R.nil (R.lenLI (SqL.of (f7.at nc gc)) (R.nil ?_)))))))))))
    refine ⟨r, _, rfl, S7, by omega, by omega, fun at' H8 f8 S8 a0 a1 => ?_⟩
    refine R.setLI (f8.at nc (f7.at nc gc)) a0 a1 ?_
    refine R.ret (R.var (q c _ _ hc0 nc (Fx.mutN hc0 (F6.trans (f7.trans f8))) (S8.mut nc) upd_same (hb.set b0 b1) (by rw [List.length_set]; exact h1) (by rw [List.length_set]; exact h2)))
  · exact R.ret (R.var (q c _ _ hc0 nc F6 S6 gc hb h1 h2))
end
end Rl
namespace Rl
open PySem PySem.Spec PyProof.Rows L2
/-! ## ways_within, come_to -/
section
variable {K : PySem.W.Frag} {w : World} {vs : List V} {H H' : Hp} {Q : VK} {E : XK}
theorem nxA_fewG {ns : List Int} {x k : Int} (hb : By ns) (hl : ns.length ≤ 1000) (h : NxA ns x k) : FewG k := by
  rcases h with h | h
  · unfold behind at h
    cases hr : rowAt ns x with
    | none => rw [hr] at h; cases h
    | some p =>
      obtain ⟨l, m⟩ := p
      rw [hr] at h
      have r := row_range hr
      have h2 : (if wordOf l ∈ endsT then none else some (x + m)) = some k := h
      split at h2
      · cases h2
      · cases h2
        exact ⟨by omega, by omega⟩
  · unfold tgt at h
    cases hr : rowAt ns x with
    | none => rw [hr] at h; cases h
    | some p =>
      obtain ⟨l, m⟩ := p
      obtain ⟨wd, rest, rfl, ht⟩ := row_shape hb hr
      rw [hr] at h
      have h2 : (if wd ∈ tgtT then some (numOf (.str wd :: rest)) else none) = some k := h
      split at h2
      · rename_i hw
        obtain ⟨n, rfl⟩ := ht hw
        cases h2
        have := row_byte hb hw hr
        show 0 ≤ n ∧ n < _
        omega
      · cases h2
theorem nxG_fewG {ns : List Int} {x k : Int} (hb : By ns) (hl : ns.length ≤ 1000) (h : NxG ns x k) : FewG k := nxA_fewG hb hl (h.elim .inl fun z => .inr z.2)
theorem mem_goL {ns L : List Int} {x k : Int} (h : Goes ns x L) : k ∈ goL ns x ↔ NxG ns x k := by
  rw [h.eq]
  exact h.2 k
/-- a dict of lists, none of them the one at l -/
def GrE (H : Hp) (d l : Addr) (ks : List Int) (f : Int → List Int) : Prop := ∃ kvs : List (Key × V), H d = some (.dK kvs) ∧ kvs.map Prod.fst = ks.map Sum.inl ∧ ∀ k ∈ ks, ∃ a, valV kvs (Sum.inl k) = some (.ref a) ∧ H a = some (.lst ((f k).map V.int)) ∧ a ≠ l
theorem GrE.gr {d l : Addr} {ks : List Int} {f : Int → List Int} (h : GrE H d l ks f) : GrD H d ks f := by
  obtain ⟨kvs, g, e, v⟩ := h
  exact ⟨kvs, .inl g, e, fun k hk => by
    obtain ⟨a, h1, h2, _⟩ := v k hk
    exact ⟨a, h1, h2⟩⟩
theorem GrE.same {d l : Addr} {ks : List Int} {f : Int → List Int} (h : GrE H d l ks f) (s : Same H H') : GrE H' d l ks f := by
  obtain ⟨kvs, g, e, v⟩ := h
  exact ⟨kvs, s _ _ g, e, fun k hk => by
    obtain ⟨a, h1, h2, h3⟩ := v k hk
    exact ⟨a, h1, s _ _ h2, h3⟩⟩
theorem GrE.mutL {d l : Addr} {ks : List Int} {f : Int → List Int} {o : HO} (h : GrE H d l ks f) (n : d ≠ l) : GrE (upd H l o) d l ks f := by
  obtain ⟨kvs, g, e, v⟩ := h
  exact ⟨kvs, upd_mut n g, e, fun k hk => by
    obtain ⟨a, h1, h2, h3⟩ := v k hk
    exact ⟨a, h1, upd_mut h3 h2, h3⟩⟩
theorem key_none {kvs : List (Key × V)} {ks : List Int} {x : Int} (hk : kvs.map Prod.fst = ks.map Sum.inl) (hx : x ∉ ks) : valV kvs (Sum.inl x) = none := by
  cases z : valV kvs (Sum.inl x) with
  | none => rfl
  | some v =>
    have hm : (Sum.inl x : Key) ∈ kvs.map Prod.fst := valV_in z
    rw [hk] at hm
    obtain ⟨y, hy, e⟩ := List.mem_map.mp hm
    cases e
    exact absurd hy hx
theorem key_some {kvs : List (Key × V)} {ks : List Int} {x : Int} (hk : kvs.map Prod.fst = ks.map Sum.inl) (hx : x ∈ ks) : (valV kvs (Sum.inl x)).isSome = true := by
  cases z : valV kvs (Sum.inl x) with
  | none =>
    have hm := valV_not z
    have hm2 : ¬ (Sum.inl x : Key) ∈ kvs.map Prod.fst := hm
    rw [hk] at hm2
    exact absurd (List.mem_map_of_mem hx) hm2
  | some v => rfl
theorem key_in {kvs : List (Key × V)} {ks : List Int} {x : Int} (hk : kvs.map Prod.fst = ks.map Sum.inl) : (valV kvs (Sum.inl x)).isSome = decide (x ∈ ks) := by
  by_cases h : x ∈ ks
  · rw [key_some hk h, decide_eq_true h]
  · rw [key_none hk h, decide_eq_false h]
    rfl
/-- one more key -/
theorem GrE.put {d l p : Addr} {ks L : List Int} {f : Int → List Int} {x : Int} {kvs : List (Key × V)} (h : GrE H d l ks f) (g : H d = some (.dK kvs)) (hx : x ∉ ks) (hp : H p = some (.lst (L.map V.int))) (np : p ≠ l) (hf : f x = L) : GrE (upd H d (.dK (putK kvs (Sum.inl x) (.ref p)))) d l (ks ++ [x]) f := by
  obtain ⟨kv, hr, hk, hv⟩ := h
  rw [g] at hr
  cases hr
  refine ⟨_, upd_same, ?_, fun k hk' => ?_⟩
  · rw [putK_new _ (key_none hk hx), List.map_append, hk, List.map_append]
    rfl
  · by_cases z : k = x
    · subst z
      refine ⟨p, by rw [valV_put, if_pos rfl], ?_, np⟩
      rw [hf]
      exact upd_mut (fun y => by rw [y, g] at hp; cases hp) hp
    · have hm : k ∈ ks := (List.mem_append.mp hk').elim id fun y => absurd (List.mem_singleton.mp y) z
      obtain ⟨l2, h1, h2, h3⟩ := hv k hm
      exact ⟨l2, by rw [valV_put, if_neg (fun y => z (Sum.inl.inj y))]; exact h1, upd_mut (fun y => by rw [y, g] at h2; cases h2) h2, h3⟩
/-- the dict and the list, while ways are found -/
structure WwA (H0 H : Hp) (d l : Addr) (ns : List Int) (e : Int) (ks ws : List Int) : Prop where
  s : Same H0 H
  g : GrE H d l ks (goL ns)
  gl : H l = some (.lst (ws.map V.int))
  I : WI (NxG ns) e ks ws
  go : ∀ k ∈ ks, ∃ L, Goes ns k L
theorem ways_core {c : V} {ns : List Int} {e : Int} {goes : TE} (hc : Code K H c ns) (hb : By ns) (hl : ns.length ≤ 1000) (he : FewG e)
    (hgo : ∀ (H1 : Hp) (σ : L2.St) (x : Int) (QV : VK), Same H H1 → FewG x → σ[0]? = some (some c) → σ[4]? = some (some (.int x)) → (∀ p H2 L, Same H1 H2 → H1 p = none → H2 p = some (.lst (L.map V.int)) → Goes ns x L → QV (.ref p) H2) → goes σ H1 QV)
    (q : ∀ (d : Addr) (H' : Hp) (ks : List Int), Same H H' → H d = none → GrD H' d ks (goL ns) → Wy ns e ks → Q (.ref d) H') :
    (tSeq (tAsg tDNewK (gName 2)) (tSeq (tAsg (tLst (tCons (tVar 1) tNil)) (gName 3)) (tSeq (tWhile (tTest (tOp (rNeA K) (tVar 3) (tLst tNil))) (tSeq (tAsg (tBM0 K "list" rPop (tVar 3)) (gName 4)) (tIfS (tB (tDNotIn (tVar 4) (tVar 2))) (tSeq (sDPut (tVar 2) (tVar 4) goes) (tDrop (tBM K "list" rExtend (tVar 3) (tCons (tDGet (tVar 2) (tVar 4)) tNil)))) tNext))) (tRet (tVar 2)))))
      { nx := fun _ H' => Q .non H', rt := Q } [some c, some (.int e), none, none, none] H := by
  refine R.seq (R.asg fun d hd => R.gName ?_)
  have s1 := same_upd (o := .dK []) hd
  have gd1 : (upd H d (.dK [])) d = some (.dK []) := upd_same
  generalize upd H d (.dK []) = H1 at s1 gd1 ⊢
  refine R.seq (R.asg (R.lst (R.cons (R.var (R.nil ⟨by k_caughtN0, fun l hl1 => R.gName ?_⟩)))))
  have s2 := same_upd (o := .lst [.int e]) hl1
  have gl2 : (upd H1 l (.lst [.int e])) l = some (.lst (([e] : List Int).map V.int)) := upd_same
  have gd2 := s2 _ _ gd1
  have hl0 : H l = none := s1.free hl1
  have nld : l ≠ d := fun z => by rw [z, gd1] at hl1; cases hl1
  generalize upd H1 l (.lst [.int e]) = H2 at s2 gl2 gd2 ⊢
  refine R.seq (R.whL (fun m σ H' => ∃ v4 ks ws, σ = [some c, some (.int e), some (.ref d), some (.ref l), v4] ∧ WwA H H' d l ns e ks ws ∧ m = (1300 - ks.length) * 3 + ws.length ∧ m ≤ 3901) _ ⟨none, [], [e], rfl, ⟨s1.trans s2, ⟨[], gd2, rfl, (fun _ h => nomatch h)⟩, gl2, WI.start, (fun _ h => nomatch h)⟩, rfl, by show (1300 - 0) * 3 + 1 ≤ 3901; decide⟩ ?_)
  clear s1 gd1 s2 gl2 gd2 hl1
  rintro m σ H3 ⟨v4, ks, ws, rfl, A, rfl, mm⟩
  have few : ∀ k ∈ ks, FewG k := fun k hk => rch_in (A.I.rk k hk) he fun _ _ n => nxG_fewG hb hl n
  have kl : ks.length ≤ 1300 := len_below A.I.nd few
  refine R.test (R.op (R.var (R.lst (R.nil ⟨by k_caughtN0, fun le hle => ?_⟩))))
  have s4 := same_upd (o := .lst []) hle
  refine R.neD (SqL.ints (ns := ws) (SqL.of (s4 _ _ A.gl))) (.lst (SqL.of upd_same) .nil) (shaped_ints ws) (shaped_ints []) ?_
  rw [eqv_ints_nil]
  have B : WwA H (upd H3 le (.lst [])) d l ns e ks ws := ⟨A.s.trans s4, A.g.same s4, s4 _ _ A.gl, A.I, A.go⟩
  generalize upd H3 le (.lst []) = H4 at B ⊢
  clear A s4 hle
  refine R.bl ?_
  rcases List.eq_nil_or_concat ws with rfl | ⟨ws, x, rfl⟩
  · refine R.iF (R.ret (R.var ?_))
    have al := B.I.all
    have al2 : ∀ k, k ∈ ks ↔ Rch (fun x y => y ∈ goL ns x) e k := fun k => by
      rw [al k]
      constructor
      · intro r
        have hk := (al k).mpr r
        clear hk
        induction r with
        | here => exact .here
        | on r n ih =>
          obtain ⟨L, hL⟩ := B.go _ ((al _).mpr r)
          exact ih.on ((mem_goL hL).mpr n)
      · intro r
        induction r with
        | here => exact .here
        | on r n ih =>
          obtain ⟨L, hL⟩ := B.go _ ((al _).mpr ih)
          exact ih.on ((mem_goL hL).mp n)
    refine q d H4 ks B.s hd B.g.gr ⟨⟨B.I.nd, few, fun k hk x hx => ?_, fun k hk => ?_⟩, al2⟩
    · obtain ⟨L, hL⟩ := B.go k hk
      exact (al x).mpr (((al k).mp hk).on ((mem_goL hL).mp hx))
    · obtain ⟨L, hL⟩ := B.go k hk
      rw [hL.eq]
      exact Nat.le_trans hL.len (by decide)
  rw [List.concat_eq_append] at B mm ⊢
  have hb1 : (!(ws ++ [x]).isEmpty) = true := by
    cases ws <;> rfl
  rw [hb1]
  refine R.iT ⟨fun σ' H' => ∃ m', m' < (1300 - ks.length) * 3 + (ws ++ [x]).length ∧ ∃ v4 ks ws, σ' = [some c, some (.int e), some (.ref d), some (.ref l), v4] ∧ WwA H H' d l ns e ks ws ∧ m' = (1300 - ks.length) * 3 + ws.length ∧ m' ≤ 3901, fun _ _ z => z, ?_⟩
  have lw : (ws ++ [x]).length = ws.length + 1 := by rw [List.length_append]; rfl
  rw [lw] at mm
  refine R.seq (R.asg (R.bm0 (R.var (R.tyL B.gl (R.pop B.gl (n := x) (by rw [lw, Nat.add_sub_cancel, List.getElem?_append_right (Nat.le_refl _), Nat.sub_self]; rfl) (R.gName ?_))))))
  rw [List.dropLast_concat]
  have s5 : Same H (upd H4 l (.lst (ws.map V.int))) := Same.mut hl0 B.s
  have g5 := B.g.mutL (o := .lst (ws.map V.int)) nld.symm
  have gl5 : (upd H4 l (.lst (ws.map V.int))) l = some (.lst (ws.map V.int)) := upd_same
  have I5 := B.I
  have go5 := B.go
  generalize upd H4 l (.lst (ws.map V.int)) = H5 at s5 g5 gl5 ⊢
  clear B
  obtain ⟨kvs, gd, hk, hv⟩ := id g5
  refine R.ifS (R.tB' (R.dnot (R.var (R.var ⟨d, _, rfl, DGet.k (k := Sum.inl x) gd, ?_⟩))))
  rw [key_in hk]
  by_cases hx : x ∈ ks
  · rw [decide_eq_true hx]
    refine ⟨false, rfl, R.iF (R.next ⟨(1300 - ks.length) * 3 + ws.length, by omega, _, ks, ws, rfl, ⟨s5, g5, gl5, I5.old hx, go5⟩, rfl, by omega⟩)⟩
  rw [decide_eq_false hx]
  refine ⟨true, rfl, R.iT ?_⟩
  refine R.seq (R.dput (hgo H5 _ x _ s5 (rch_in (I5.rw_ x (List.mem_append_right _ (List.mem_singleton.mpr rfl))) he fun _ _ n => nxG_fewG hb hl n) rfl rfl fun p H6 L s6 np gp hL => R.var (R.var ?_)))
  have npl : p ≠ l := fun z => by rw [z, gl5] at np; cases np
  have npd : p ≠ d := fun z => by rw [z, gd] at np; cases np
  have g6 := g5.same s6
  have gd6 := s6 _ _ gd
  refine ⟨d, _, rfl, .inl ⟨kvs, Sum.inl x, gd6, rfl, ?_, rfl⟩, ?_⟩
  · have := congrArg List.length hk
    rw [List.length_map, List.length_map] at this
    rw [this]
    exact Nat.lt_of_le_of_lt kl (by decide)
  have g7 := g6.put gd6 hx gp npl hL.eq
  have gl7 := upd_mut (o := .dK (putK kvs (Sum.inl x) (.ref p))) nld (s6 _ _ gl5)
  have gp7 := upd_mut (o := .dK (putK kvs (Sum.inl x) (.ref p))) npd gp
  have s7 : Same H (upd H6 d (.dK (putK kvs (Sum.inl x) (.ref p)))) := Same.mut hd (s5.trans s6)
  have gd7 : (upd H6 d (.dK (putK kvs (Sum.inl x) (.ref p)))) d = some (.dK (putK kvs (Sum.inl x) (.ref p))) := upd_same
  generalize upd H6 d (.dK (putK kvs (Sum.inl x) (.ref p))) = H7 at g7 gl7 gp7 s7 gd7 ⊢
  have dg : DGet H7 d (.int x) (some (.ref p)) := by
    have e : valV (putK kvs (Sum.inl x) (.ref p)) (Sum.inl x) = some (.ref p) := by rw [valV_put, if_pos rfl]
    rw [← e]
    exact DGet.k (k := Sum.inl x) gd7
  refine R.drop (R.bm (R.var (R.tyL gl7 (R.cons (R.dget (R.var (R.var ⟨d, _, rfl, dg, R.nil ⟨l, p, _, _, rfl, rfl, gl7, gp7, ?_, ?_⟩⟩)))))))
  · have ll := hL.len
    rw [List.length_map, List.length_map, sizeLine_eq]
    omega
  · rw [← List.map_append]
    have lk : (ks ++ [x]).length = ks.length + 1 := by rw [List.length_append]; rfl
    have few' : ∀ k ∈ ks ++ [x], FewG k := fun k hk => by
      rcases List.mem_append.mp hk with hk | hk
      · exact few k hk
      · rw [List.mem_singleton.mp hk]
        exact rch_in (I5.rw_ x (List.mem_append_right _ (List.mem_singleton.mpr rfl))) he fun _ _ n => nxG_fewG hb hl n
    have I8 := I5.new hx (L := L) fun j => hL.2 j
    have kl' := len_below I8.nd few'
    have ll := hL.len
    refine ⟨(1300 - (ks ++ [x]).length) * 3 + (ws ++ L).length, by rw [List.length_append (as := ws) (bs := L)]; omega, _, ks ++ [x], ws ++ L, rfl, ⟨Same.mut hl0 s7, g7.mutL nld.symm, upd_same, I8, fun k hk => ?_⟩, rfl, by rw [List.length_append (as := ws) (bs := L)]; omega⟩
    rcases List.mem_append.mp hk with hk | hk
    · exact go5 k hk
    · rw [List.mem_singleton.mp hk]
      exact ⟨L, hL⟩
end
end Rl
namespace Rl
open PySem PySem.Spec PyProof.Rows L2
section
variable {K : PySem.W.Frag} {w : World} {vs : List V} {H H' : Hp} {Q : VK} {E : XK}
theorem pure_ways_within {F : Prop} (_ : F) (h : sp_ways_within K w vs H Q E) : t_ways_within K w { nx := fun _ H' => Q .non H', rt := Q } (start N_ways_within vs) H := by
  obtain ⟨c, ns, e, rfl, hc, hb, hl, he, q⟩ := h
  exact ways_core hc hb hl he (fun H1 σ x QV s _ h0 h4 k => R.call (R.cons (R.var (R.cons (R.var (R.nil ⟨c, ns, x, rfl, hc.mono s, hb, fun p H2 L s2 np gp hL => k p H2 L s2 np gp hL⟩) h4)) h0))) q
theorem neBar {x : Int} {bar : Option Int} (q : Q (.bl (!decide (bar = some x))) H) : rNeA K (.int x) (optV bar) H Q := by
  cases bar with
  | none =>
    refine R.neD (.int x) .non (by simp [SeqAt.shaped, PyData.canLay0, PyData.depth]) (by simp [SeqAt.shaped, PyData.canLay0, PyData.depth]) ?_
    rw [show PyData.eqv (.int x) .none = false by simp only [PyData.eqv]]
    rw [decide_eq_false (fun z => nomatch z)] at q
    exact q
  | some y =>
    refine R.neI ?_
    rw [show decide (x = y) = decide (some y = some x) from decide_eq_decide.mpr ⟨fun z => congrArg some z.symm, fun z => (Option.some.inj z).symm⟩]
    exact q
abbrev NB (f : Int → List Int) (bar : Option Int) : Int → Int → Prop := fun x y => y ∈ f x ∧ bar ≠ some y
theorem pure_come_to {F : Prop} (_ : F) (h : sp_come_to K w vs H Q E) : t_come_to K w { nx := fun _ H' => Q .non H', rt := Q } (start N_come_to vs) H := by
  obtain ⟨d0, a, bar, ks, f, rfl, hg, hw, ha, q⟩ := h
  unfold t_come_to
  refine R.seq (R.asg fun d hd => R.gName ?_)
  have s1 := same_upd (o := .dK []) hd
  have gd1 : (upd H d (.dK [])) d = some (.dK (dkv [])) := upd_same
  generalize upd H d (.dK []) = H1 at s1 gd1 ⊢
  refine R.seq (R.joinS (fun σ H' => ∃ l ws, σ = [some (.ref d0), some (.int a), some (optV bar), some (.ref d), some (.ref l), none, none] ∧ Same H1 H' ∧ H1 l = none ∧ H' l = some (.lst (ws.map V.int)) ∧ (bar ≠ some a → ws = [a]) ∧ (bar = some a → ws = [])) ?_ fun N key => ?_)
  rotate_left
  · refine R.asg (R.ifE (R.test (R.op (R.var (R.var (neBar (R.bl ?_)))))))
    by_cases z : bar = some a
    · rw [decide_eq_true z]
      refine R.iF (R.lst (R.nil ⟨by k_caughtN0, fun l hl => R.gName (key _ _ ⟨l, [], rfl, same_upd hl, hl, upd_same, fun y => absurd z y, fun _ => rfl⟩)⟩))
    · rw [decide_eq_false z]
      refine R.iT (R.lst (R.cons (R.var (R.nil ⟨by k_caughtN0, fun l hl => R.gName (key _ _ ⟨l, [a], rfl, same_upd hl, hl, upd_same, fun _ => rfl, fun y => absurd y z⟩)⟩))))
  rintro σ H2 ⟨l, ws0, rfl, s2, hl1, gl2, w1, w2⟩
  have gd2 := s2 _ _ gd1
  have hl0 : H l = none := s1.free hl1
  have nld : l ≠ d := fun z => by rw [z, gd1] at hl1; cases hl1
  refine R.seq (R.whL (fun m σ H' => ∃ v5 fs ws, σ = [some (.ref d0), some (.int a), some (optV bar), some (.ref d), some (.ref l), v5, none] ∧ Same H H' ∧ H' d = some (.dK (dkv fs)) ∧ H' l = some (.lst (ws.map V.int)) ∧ (bar ≠ some a → WI (NB f bar) a fs ws) ∧ (bar = some a → fs = [] ∧ ws = []) ∧ m = (1300 - fs.length) * 1301 + ws.length ∧ m ≤ 1691301) ((1300 - 0) * 1301 + ws0.length) ⟨none, [], ws0, rfl, s1.trans s2, gd2, gl2, (fun z => by rw [w1 z]; exact WI.start), (fun z => ⟨rfl, w2 z⟩), rfl, ?_⟩ ?_)
  · have : ws0.length ≤ 1 := by
      by_cases z : bar = some a
      · rw [w2 z]
        exact Nat.zero_le _
      · rw [w1 z]
        exact Nat.le_refl _
    show (1300 - 0) * 1301 + ws0.length ≤ _
    omega
  clear s1 gd1 s2 gl2 gd2 w1 w2 hl1
  rintro m σ H3 ⟨v5, fs, ws, rfl, s3, gd3, gl3, A1, A2, rfl, mm⟩
  have sub : ∀ k, Rch (NB f bar) a k → k ∈ ks := fun k r => by
    induction r with
    | here => exact ha
    | on _ n ih => exact hw.clo _ ih _ n.1
  refine R.test (R.op (R.var (R.lst (R.nil ⟨by k_caughtN0, fun le hle => ?_⟩))))
  have s4 := same_upd (o := .lst []) hle
  refine R.neD (SqL.ints (ns := ws) (SqL.of (s4 _ _ gl3))) (.lst (SqL.of upd_same) .nil) (shaped_ints ws) (shaped_ints []) ?_
  rw [eqv_ints_nil]
  have gd4 := s4 _ _ gd3
  have gl4 := s4 _ _ gl3
  have s34 := s3.trans s4
  generalize upd H3 le (.lst []) = H4 at s34 gd4 gl4 ⊢
  clear s3 gd3 gl3 s4 hle
  refine R.bl ?_
  rcases List.eq_nil_or_concat ws with rfl | ⟨ws, x, rfl⟩
  · refine R.iF (R.ret (R.var ?_))
    by_cases z : bar = some a
    · obtain ⟨rfl, _⟩ := A2 z
      exact q d H4 [] s34 hd gd4 List.nodup_nil fun k => ⟨(fun y => nomatch y), fun y => absurd z y.1⟩
    · have I := A1 z
      exact q d H4 fs s34 hd gd4 I.nd fun k => (I.all k).trans ⟨fun r => ⟨z, r⟩, fun r => r.2⟩
  rw [List.concat_eq_append] at A1 A2 gl4 mm ⊢
  have za : bar ≠ some a := fun z => by
    have := (A2 z).2
    cases ws <;> cases this
  have I5 := A1 za
  have hb1 : (!(ws ++ [x]).isEmpty) = true := by
    cases ws <;> rfl
  rw [hb1]
  have fewf : ∀ k ∈ fs, FewG k := fun k hk => hw.few k (sub k (I5.rk k hk))
  have kl : fs.length ≤ 1300 := len_below I5.nd fewf
  have lw : (ws ++ [x]).length = ws.length + 1 := by rw [List.length_append]; rfl
  rw [lw] at mm
  have xk : x ∈ ks := sub x (I5.rw_ x (List.mem_append_right _ (List.mem_singleton.mpr rfl)))
  refine R.iT ⟨fun σ' H' => ∃ m', m' < (1300 - fs.length) * 1301 + (ws ++ [x]).length ∧ ∃ v5 fs ws, σ' = [some (.ref d0), some (.int a), some (optV bar), some (.ref d), some (.ref l), v5, none] ∧ Same H H' ∧ H' d = some (.dK (dkv fs)) ∧ H' l = some (.lst (ws.map V.int)) ∧ (bar ≠ some a → WI (NB f bar) a fs ws) ∧ (bar = some a → fs = [] ∧ ws = []) ∧ m' = (1300 - fs.length) * 1301 + ws.length ∧ m' ≤ 1691301, fun _ _ z => z, ?_⟩
  rw [lw]
  refine R.seq (R.asg (R.bm0 (R.var (R.tyL gl4 (R.pop gl4 (n := x) (by rw [lw, Nat.add_sub_cancel, List.getElem?_append_right (Nat.le_refl _), Nat.sub_self]; rfl) (R.gName ?_))))))
  rw [List.dropLast_concat]
  have s5 : Same H (upd H4 l (.lst (ws.map V.int))) := Same.mut hl0 s34
  have gd5 := upd_mut (o := .lst (ws.map V.int)) nld.symm gd4
  have gl5 : (upd H4 l (.lst (ws.map V.int))) l = some (.lst (ws.map V.int)) := upd_same
  generalize upd H4 l (.lst (ws.map V.int)) = H5 at s5 gd5 gl5 ⊢
  clear s34 gd4 gl4 A1 A2
  refine R.ifS (R.tB' (R.dnot (R.var (R.var ⟨d, _, rfl, DGet.k (k := Sum.inl x) gd5, ?_⟩))))
  rw [dkv_get]
  by_cases hx : x ∈ fs
  · rw [decide_eq_true hx]
    exact ⟨false, rfl, R.iF (R.next ⟨(1300 - fs.length) * 1301 + ws.length, by omega, _, fs, ws, rfl, s5, gd5, gl5, fun _ => I5.old hx, fun z => absurd z za, rfl, by omega⟩)⟩
  rw [decide_eq_false hx]
  refine ⟨true, rfl, R.iT ?_⟩
  refine R.seq (R.dput (R.c (R.var (R.var (R.dputI gd5 hx (Nat.lt_of_le_of_lt kl (by decide)) ?_)))))
  have s6 : Same H (upd H5 d (.dK (dkv (fs ++ [x])))) := Same.mut hd s5
  have gd6 : (upd H5 d (.dK (dkv (fs ++ [x])))) d = some (.dK (dkv (fs ++ [x]))) := upd_same
  have gl6 := upd_mut (o := .dK (dkv (fs ++ [x]))) nld gl5
  generalize upd H5 d (.dK (dkv (fs ++ [x]))) = H6 at s6 gd6 gl6 ⊢
  obtain ⟨kvs, rd, hk, hv⟩ := hg.same s6
  obtain ⟨lx, hlx, glx⟩ := hv x xk
  have dg : DGet H6 d0 (.int x) (some (.ref lx)) := by
    rw [← hlx]
    exact .inl ⟨kvs, Sum.inl x, rd, rfl, rfl⟩
  have len := hw.len x xk
  refine R.drop (R.bm (R.var (R.tyL gl6 (R.cons (R.lc (R.seqIter (R.dget (R.var (R.var ⟨d0, _, rfl, dg, ?_⟩)))))))))
  refine R.lcFMI (fun y => !decide (bar = some y)) id (SqL.of glx) (Nat.lt_of_le_of_lt len (by decide)) (fun _ => rfl) (fun y H7 _ _ QB qb => R.test (R.op (R.var (R.var (neBar (R.bl qb)))))) (fun y H7 _ _ _ Q2 q2 => R.var q2) fun D H7 hD s7 gD => ?_
  have nDl : D ≠ l := fun z => by rw [z, gl6] at hD; cases hD
  rw [List.map_id] at gD
  have ll : ((f x).filter fun y => !decide (bar = some y)).length ≤ 1300 := Nat.le_trans (List.length_filter_le _ _) len
  refine R.nil ⟨l, D, _, _, rfl, rfl, s7 _ _ gl6, gD, ?_, ?_⟩
  · rw [List.length_map, List.length_map, sizeLine_eq]
    omega
  · rw [← List.map_append]
    have lk : (fs ++ [x]).length = fs.length + 1 := by rw [List.length_append]; rfl
    have I8 := I5.new hx (L := (f x).filter fun y => !decide (bar = some y)) fun j => by
      rw [List.mem_filter]
      constructor
      · rintro ⟨h1, h2⟩
        refine ⟨h1, fun z => ?_⟩
        rw [decide_eq_true z] at h2
        cases h2
      · rintro ⟨h1, h2⟩
        refine ⟨h1, ?_⟩
        rw [decide_eq_false h2]
        rfl
    have kl' := len_below I8.nd fun k hk => hw.few k (sub k (I8.rk k hk))
    refine ⟨(1300 - (fs ++ [x]).length) * 1301 + (ws ++ (f x).filter fun y => !decide (bar = some y)).length, by rw [List.length_append (as := ws)]; omega, _, fs ++ [x], ws ++ (f x).filter fun y => !decide (bar = some y), rfl, Same.mut hl0 (s6.trans s7), upd_mut nld.symm (s7 _ _ gd6), upd_same, fun _ => I8, fun z => absurd z za, rfl, by rw [List.length_append (as := ws)]; omega⟩
end
end Rl
namespace Rl
open PySem PySem.Spec PyProof.Rows L2
/-! ## leaders, led_over -/
section
variable {K : PySem.W.Frag} {w : World} {vs : List V} {H0 H H' : Hp} {Q : VK} {E : XK} {d D l : Addr} {ks : List Int} {f g g' : Int → List Int} {k x : Int}
theorem updN {o : HO} {a b : Addr} (h : upd H a o b = none) : H b = none := by
  by_cases z : b = a
  · rw [z, upd_same] at h
    cases h
  · rw [upd_ne z] at h
    exact h
theorem GrN.congr (h : GrN H0 H D ks g) (e : ∀ k ∈ ks, g k = g' k) : GrN H0 H D ks g' := by
  obtain ⟨kvs, ad, h1, h2, h3, h4⟩ := h.ex
  exact ⟨⟨kvs, ad, h1, h2, fun k hk => by
    obtain ⟨a, b, c, d⟩ := h3 k hk
    exact ⟨a, by rw [b, e k hk], c, d⟩, h4⟩, h.new⟩
theorem GrN.smd (h : GrN H0 H D ks g) (s : SmW d H H') (hd : ∃ kvs, Rd H0 d (.dK kvs)) : GrN H0 H' D ks g := by
  have nn : ∀ {a : Addr}, H0 a = none → a ≠ d := fun {a} e z => by
    subst z
    obtain ⟨kvs, r | ⟨ob, r⟩⟩ := hd <;> (rw [e] at r; cases r)
  obtain ⟨kvs, ad, h1, h2, h3, h4⟩ := h.ex
  exact ⟨⟨kvs, ad, s.off _ _ (nn h.new) h1, h2, fun k hk => by
    obtain ⟨a, b, c, d⟩ := h3 k hk
    exact ⟨a, s.off _ _ (nn c) b, c, d⟩, h4⟩, h.new⟩
theorem GrN.same (h : GrN H0 H D ks g) (s : Same H H') : GrN H0 H' D ks g := by
  obtain ⟨kvs, ad, h1, h2, h3, h4⟩ := h.ex
  exact ⟨⟨kvs, ad, s _ _ h1, h2, fun k hk => by
    obtain ⟨a, b, c, d⟩ := h3 k hk
    exact ⟨a, s _ _ b, c, d⟩, h4⟩, h.new⟩
/-- a key more, with a list of its own -/
theorem GrN.put {kvs : List (Key × V)} (h : GrN H0 H D ks g) (gD : H D = some (.dK kvs)) (hx : k ∉ ks) (hl : H l = none) (hl0 : H0 l = none) : GrN H0 (upd (upd H l (.lst ((g k).map V.int))) D (.dK (putK kvs (Sum.inl k) (.ref l)))) D (ks ++ [k]) g := by
  obtain ⟨kv, ad, h1, h2, h3, h4⟩ := h.ex
  rw [gD] at h1
  cases h1
  have nl : l ≠ D := fun z => by rw [z, gD] at hl; cases hl
  have na : ∀ j ∈ ks, ad j ≠ l := fun j hj z => by
    have := (h3 j hj).2.1
    rw [z, hl] at this
    cases this
  refine ⟨⟨_, fun j => if j = k then l else ad j, upd_same, ?_, fun j hj => ?_, fun i hi j hj e => ?_⟩, h.new⟩
  · rw [putK_new _ (key_none h2 hx), List.map_append, h2, List.map_append]
    rfl
  · dsimp only
    by_cases z : j = k
    · subst z
      rw [if_pos rfl]
      exact ⟨by rw [valV_put, if_pos rfl], upd_mut nl upd_same, hl0, nl⟩
    · rw [if_neg z]
      have hm : j ∈ ks := (List.mem_append.mp hj).elim id fun y => absurd (List.mem_singleton.mp y) z
      obtain ⟨a, b, c, d⟩ := h3 j hm
      exact ⟨by rw [valV_put, if_neg (fun y => z (Sum.inl.inj y))]; exact a, upd_mut d (upd_mut (na j hm) b), c, d⟩
  · have mm : ∀ {j}, j ∈ ks ++ [k] → j ≠ k → j ∈ ks := fun hj z => (List.mem_append.mp hj).elim id fun y => absurd (List.mem_singleton.mp y) z
    dsimp only at e
    by_cases zi : i = k <;> by_cases zj : j = k
    · rw [zi, zj]
    · rw [if_pos zi, if_neg zj] at e
      exact absurd e.symm (na j (mm hj zj))
    · rw [if_neg zi, if_pos zj] at e
      exact absurd e (na i (mm hi zi))
    · rw [if_neg zi, if_neg zj] at e
      exact h4 i (mm hi zi) j (mm hj zj) e
/-- a number more in a key's list -/
theorem GrN.app {L : List Int} (h : GrN H0 H D ks g) (hk : k ∈ ks) (hL : g k = L) : ∃ a, DGet H D (.int k) (some (.ref a)) ∧ H a = some (.lst (L.map V.int)) ∧ H0 a = none ∧ GrN H0 (upd H a (.lst ((L ++ [x]).map V.int))) D ks (fun j => if j = k then L ++ [x] else g j) := by
  obtain ⟨kvs, ad, h1, h2, h3, h4⟩ := h.ex
  obtain ⟨a, b, c, dd⟩ := h3 k hk
  have dg : DGet H D (.int k) (some (.ref (ad k))) := by
    rw [← a]
    exact DGet.k (k := Sum.inl k) h1
  rw [hL] at b
  refine ⟨ad k, dg, b, c, ⟨kvs, ad, upd_mut dd.symm h1, h2, fun j hj => ?_, h4⟩, h.new⟩
  obtain ⟨a', b', c', d'⟩ := h3 j hj
  refine ⟨a', ?_, c', d'⟩
  by_cases z : j = k
  · subst z
    rw [if_pos rfl]
    exact upd_same
  · rw [if_neg z]
    exact upd_mut (fun y => z (h4 j hj k hk y)) b'
theorem GrN.rebase {p : Addr} {o : HO} (h : GrN H0 H D ks g) (np : H p = none) : GrN (upd H0 p o) H D ks g := by
  obtain ⟨kvs, ad, h1, h2, h3, h4⟩ := h.ex
  have nD : D ≠ p := fun z => by rw [z, np] at h1; cases h1
  refine ⟨⟨kvs, ad, h1, h2, fun k hk => ?_, h4⟩, by rw [upd_ne nD]; exact h.new⟩
  obtain ⟨a, b, c, dd⟩ := h3 k hk
  exact ⟨a, b, by rw [upd_ne (fun z => by rw [z, np] at b; cases b)]; exact c, dd⟩
theorem GrN.base {p : Addr} {o : HO} (h : GrN (upd H0 p o) H D ks g) : GrN H0 H D ks g := by
  obtain ⟨kvs, ad, h1, h2, h3, h4⟩ := h.ex
  exact ⟨⟨kvs, ad, h1, h2, fun k hk => by
    obtain ⟨a, b, c, dd⟩ := h3 k hk
    exact ⟨a, b, updN c, dd⟩, h4⟩, updN h.new⟩
theorem SmW.new {o : HO} (s : SmW d H H') (n : H' l = none) (nd : l ≠ d) : SmW d H (upd H' l o) := ⟨fun b u nb e => by
  have := s.off b u nb e
  rw [upd_ne (fun z => by rw [z, n] at this; cases this)]
  exact this, fun kv r => by
  rcases s.at_ kv r with r | ⟨ob, r⟩
  · exact .inl (by rw [upd_ne nd.symm]; exact r)
  · exact .inr ⟨ob, by rw [upd_ne nd.symm]; exact r⟩⟩
theorem SmW.mut {o : HO} (s : SmW d H H') (n : H l = none) (nd : l ≠ d) : SmW d H (upd H' l o) := ⟨fun b u nb e => by
  rw [upd_ne (fun z => by rw [z, n] at e; cases e)]
  exact s.off b u nb e, fun kv r => by
  rcases s.at_ kv r with r | ⟨ob, r⟩
  · exact .inl (by rw [upd_ne nd.symm]; exact r)
  · exact .inr ⟨ob, by rw [upd_ne nd.symm]; exact r⟩⟩
theorem rd_ne {kvs : List (Key × V)} (r : Rd H d (.dK kvs)) (n : H l = none) : l ≠ d := fun z => by
  subst z
  rcases r with r | ⟨ob, r⟩ <;> (rw [n] at r; cases r)
open Classical in
theorem pure_leaders {F : Prop} (_ : F) (h : sp_leaders K w vs H Q E) : t_leaders K w { nx := fun _ H' => Q .non H', rt := Q } (start N_leaders vs) H := by
  obtain ⟨d, e, ks, f, rfl, hg, hw, he, q⟩ := h
  unfold t_leaders
  obtain ⟨kvs, rd, hk, hv⟩ := id hg
  have rd0 : ∃ kvs, Rd H d (.dK kvs) := ⟨kvs, rd⟩
  have lk : kvs.length = ks.length := by
    have := congrArg List.length hk
    rw [List.length_map, List.length_map] at this
    exact this
  have kat : ∀ {i : Nat} {k : Key} {v : V}, kvs[i]? = some (k, v) → ∃ hi : i < ks.length, k = Sum.inl ks[i] := fun {i k v} h => by
    have hi : i < kvs.length := (List.getElem?_eq_some_iff.mp h).1
    have e1 : (kvs.map Prod.fst)[i]? = some k := by rw [List.getElem?_map, h]; rfl
    rw [hk, List.getElem?_map, List.getElem?_eq_getElem (by omega)] at e1
    exact ⟨by omega, (Option.some.inj e1).symm⟩
  have tk : ∀ {i : Nat} (hi : i < ks.length), ks.take (i + 1) = ks.take i ++ [ks[i]] := fun {i} hi => by
    rw [List.take_add_one, List.getElem?_eq_getElem hi]
    rfl
  have nk : ∀ {i : Nat} (hi : i < ks.length), ks[i] ∉ ks.take i := fun {i} hi hm => by
    have nd := hw.nd
    rw [← List.take_append_drop i ks, List.nodup_append] at nd
    exact nd.2.2 _ hm _ (List.mem_iff_getElem?.mpr ⟨0, by rw [List.getElem?_drop, Nat.add_zero, List.getElem?_eq_getElem hi]⟩) rfl
  have kl := hw.kl
  -- a list for each row
  refine R.seq (R.asg (R.dc (R.keysF (R.var (R.keysAt rd fun o H1 e1 s1 D hD => ?_)))))
  have sd1 : SmW d H H1 := SmW.frz rd e1 s1
  have nDd : D ≠ d := fun z => by rw [z, e1] at hD; cases hD
  have hD0 : H D = none := sd1.free nDd hD
  refine R.dcI walk_keys (fun i H' => SmW d H H' ∧ H' d = some (.frz o (.dK kvs)) ∧ GrN H H' D (ks.take i) fun _ => []) ⟨sd1.new hD nDd, by rw [upd_ne nDd.symm]; exact e1, ⟨⟨[], fun _ => D, upd_same, rfl, (fun _ h => nomatch h), (fun _ h => nomatch h)⟩, hD0⟩⟩ (fun i H' _ z => z.2.1) ?_ ?_
  · rintro i x H2 H3 hi ⟨sd2, e2, G2⟩ ⟨rfl, k, v, hkv, rfl⟩
    obtain ⟨hi', rfl⟩ := kat hkv
    obtain ⟨kv, ad, gD, hk2, _⟩ := id G2.ex
    refine ⟨rfl, R.yes (iteT (R.var (R.lst (R.nil ⟨by k_caughtN0, fun l hl => ?_⟩))))⟩
    have nld : l ≠ d := fun z => by rw [z, e2] at hl; cases hl
    have nlD : l ≠ D := fun z => by rw [z, gD] at hl; cases hl
    refine ⟨kv, Sum.inl ks[i], rfl, by rw [upd_ne nlD.symm]; exact gD, ?_, (sd2.new hl nld).mut hD0 nDd, by rw [upd_ne nDd.symm, upd_ne nld.symm]; exact e2, ?_⟩
    · have := congrArg List.length hk2
      rw [List.length_map, List.length_map, List.length_take] at this
      exact Nat.lt_of_le_of_lt (m := 1300) (by omega) (by decide)
    · rw [tk hi']
      exact G2.put gD (nk hi') hl (sd2.free nld hl)
  rintro H2 ⟨sd2, e2, G2⟩
  rw [lk, List.take_length] at G2
  clear sd1 e1 s1 hD
  refine R.gName (R.seq (R.for' (R.seqIter (R.cb (R.cons (R.var (R.nil ⟨d, kvs, ks, rfl, .inr ⟨o, e2⟩, hk, fun S p hp hs np => ?_⟩)))))))
  have npd : p ≠ d := fun z => by rw [z, e2] at np; cases np
  have hS := sorted_strict hp hs hw.nd
  have sd3 := sd2.new (o := .lst (S.map V.int)) np npd
  have G3 := (G2.rebase (o := .lst (S.map V.int)) np).same (same_upd (o := .lst (S.map V.int)) np)
  have rd0' : ∃ kvs, Rd (upd H p (.lst (S.map V.int))) d (.dK kvs) := ⟨kvs, by
    rcases rd with r | ⟨ob, r⟩
    · exact .inl (by rw [upd_ne npd.symm]; exact r)
    · exact .inr ⟨ob, by rw [upd_ne npd.symm]; exact r⟩⟩
  have hp0 : H p = none := sd2.free npd np
  have gp3 : (upd H2 p (.lst (S.map V.int))) p = some (.lst (S.map V.int)) := upd_same
  generalize upd H2 p (.lst (S.map V.int)) = H3 at sd3 G3 gp3 ⊢
  have lS : S.length = ks.length := hp.length_eq
  let P : Int → Int → Bool := fun k l => decide (¬ CT f (some l) e k)
  refine R.forLI (ns := S) (fun i σ H' => ∃ v3 v4 v5, σ = [some (.ref d), some (.int e), some (.ref D), v3, v4, v5] ∧ SmW d H H' ∧ H' p = some (.lst (S.map V.int)) ∧ GrN (upd H p (.lst (S.map V.int))) H' D ks fun k => (S.take i).filter (P k)) (SqL.of gp3) ⟨_, _, _, rfl, sd3, gp3, G3.congr fun _ _ => rfl⟩ (fun i σ H' _ ⟨_, _, _, _, _, g, _⟩ => SqL.of g) ?_ ?_
  · clear sd3 G3 gp3 sd2 e2 G2 np
    rintro i x σ H4 hx hxm hi ⟨v3, v4, v5, rfl, sd4, gp4, G4⟩
    refine R.gName (R.seq (R.asg (R.call (R.cons (R.var (R.cons (R.var (R.cons (R.var (R.nil ⟨d, e, some x, ks, f, rfl, hg.smd sd4, hw, he, fun pf H5 fs s5 npf gpf nd5 hfs => R.gName ?_⟩)))))))))) 
    have sd5 := sd4.trans (SmW.of s5)
    have gp5 := s5 _ _ gp4
    have G5 := G4.same s5
    have npfd : pf ≠ d := rd_ne (sd4.at_ _ rd |> fun r => r) npf
    refine R.for' (R.keysF (R.var (R.keysAt (sd5.at_ _ rd) fun o6 H6 e6 s6 => ?_)))
    have sd56 : SmW d H5 H6 := SmW.frz (sd5.at_ _ rd) e6 s6
    have sd6 := sd5.trans sd56
    have gp6 := sd56.off _ _ npd gp5
    have gpf6 := sd56.off _ _ npfd gpf
    have G6 := G5.smd sd56 rd0'
    have hpf0 : H pf = none := by
      have := sd4.free npfd npf
      exact this
    have pfp : pf ≠ p := fun z => by rw [z, gp4] at npf; cases npf
    refine R.loop walk_keys (fun j σ H' => ∃ v3, σ = [some (.ref d), some (.int e), some (.ref D), v3, some (.int x), some (.ref pf)] ∧ SmW d H H' ∧ H' d = some (.frz o6 (.dK kvs)) ∧ H' p = some (.lst (S.map V.int)) ∧ H' pf = some (.dK (dkv fs)) ∧ GrN (upd H p (.lst (S.map V.int))) H' D ks fun k => (S.take i).filter (P k) ++ if k ∈ ks.take j ∧ P k x = true then [x] else []) ⟨_, rfl, sd6, e6, gp6, gpf6, G6.congr fun k _ => by rw [if_neg (fun z => nomatch z.1), List.append_nil]⟩ (fun j σ H' _ ⟨_, _, _, z, _⟩ => z) ?_ ?_
    · clear sd56 sd6 gp6 gpf6 G6 e6 s6 sd5 gp5 G5 gpf
      rintro j y σ H7 H8 hj ⟨v3, rfl, sd7, e7, gp7, gpf7, G7⟩ ⟨rfl, k, v, hkv, rfl⟩
      obtain ⟨hj', rfl⟩ := kat hkv
      have km : ks[j] ∈ ks := List.getElem_mem hj'
      refine R.gName (R.ifS (R.tB' (R.dnot (R.var (R.var ⟨pf, _, rfl, DGet.k (k := Sum.inl ks[j]) gpf7, ?_⟩)))))
      rw [dkv_get]
      have hP : (!decide (ks[j] ∈ fs)) = P ks[j] x := by
        show _ = decide (¬ CT f (some x) e ks[j])
        by_cases z : ks[j] ∈ fs
        · rw [decide_eq_true z, decide_eq_false (fun y => y ((hfs _).mp z))]
          rfl
        · rw [decide_eq_false z, decide_eq_true (show ¬ CT f (some x) e ks[j] from fun y => z ((hfs _).mpr y))]
          rfl
      rw [hP]
      have nj := nk hj'
      have cj : (S.take i).filter (P ks[j]) ++ (if ks[j] ∈ ks.take j ∧ P ks[j] x = true then [x] else []) = (S.take i).filter (P ks[j]) := by
        rw [if_neg (fun z => nj z.1), List.append_nil]
      have other : ∀ k ∈ ks, k ≠ ks[j] → (k ∈ ks.take (j + 1) ↔ k ∈ ks.take j) := fun k _ hn => by
        rw [tk hj', List.mem_append, List.mem_singleton]
        exact ⟨fun z => z.elim id fun y => absurd y hn, .inl⟩
      cases hb : P ks[j] x with
      | false =>
        refine ⟨false, rfl, R.iF (R.next ⟨_, rfl, sd7, e7, gp7, gpf7, G7.congr fun k hk => ?_⟩)⟩
        by_cases z : k = ks[j]
        · subst z
          rw [hb, if_neg (fun z => Bool.false_ne_true z.2), if_neg (fun z => Bool.false_ne_true z.2)]
        · have := other k hk z
          simp only [this]
      | true =>
        refine ⟨true, rfl, R.iT ?_⟩
        have bound : ((S.take i).filter (P ks[j])).length < sizeLine := Nat.lt_of_le_of_lt (Nat.le_trans (List.length_filter_le _ _) (Nat.le_trans (List.length_take_le' ..) (by omega : S.length ≤ 1300))) (by decide)
        obtain ⟨a, dg, ga, ha0, G8⟩ := G7.app (k := ks[j]) (x := x) km cj
        have ha1 : H a = none := updN ha0
        have nad : a ≠ d := rd_ne rd ha1
        have nap : a ≠ p := fun z => by
          rw [z, upd_same] at ha0
          cases ha0
        refine R.drop (R.bm (R.dget (R.var (R.var ⟨D, _, rfl, dg, R.tyL ga (R.cons (R.var (R.nil (R.appendI ga bound ?_))))⟩))))
        refine ⟨_, rfl, sd7.mut ha1 nad, by rw [upd_ne nad.symm]; exact e7, by rw [upd_ne nap.symm]; exact gp7, by rw [upd_ne (fun z => by rw [← z, gpf7] at ga; cases ga)]; exact gpf7, G8.congr fun k hk => ?_⟩
        by_cases z : k = ks[j]
        · subst z
          rw [if_pos rfl, if_pos ⟨by rw [tk hj']; exact List.mem_append_right _ (List.mem_singleton.mpr rfl), hb⟩]
        · have := other k hk z
          simp only [this, if_neg z]
    · rintro σ H7 ⟨v3, rfl, sd7, e7, gp7, gpf7, G7⟩
      refine ⟨_, _, _, rfl, sd7, gp7, G7.congr fun k hk => ?_⟩
      rw [lk, List.take_length, List.take_add_one, hx, List.filter_append]
      congr 1
      show _ = [x].filter (P k)
      cases hb : P k x with
      | true => rw [if_pos ⟨hk, rfl⟩, List.filter_cons, hb]; rfl
      | false => rw [if_neg (fun z => Bool.false_ne_true z.2), List.filter_cons, hb]; rfl
  · rintro σ H4 ⟨v3, v4, v5, rfl, sd4, gp4, G4⟩
    refine R.ret (R.var (q D H4 S sd4 hp hS nDd (G4.base.congr fun k hk => ?_)))
    rw [List.take_length]
    rfl
end
end Rl
namespace Rl
open PySem PySem.Spec PyProof.Rows L2
section
variable {K : PySem.W.Frag} {w : World} {vs : List V} {H H' : Hp} {Q : VK} {E : XK}
theorem pure_led_over {F : Prop} (_ : F) (h : sp_led_over K w vs H Q E) : t_led_over K w { nx := fun _ H' => Q .non H', rt := Q } (start N_led_over vs) H := by
  obtain ⟨c, ns, e, rfl, hc, hb, hl, he, q⟩ := h
  unfold t_led_over
  refine R.seq (R.asg (R.call (R.cons (R.call (R.cons (R.var (R.cons (R.var (R.nil ⟨c, ns, e, rfl, hc, hb, hl, he, fun d H1 ks s1 nd g1 W => ?_⟩)))))))))
  refine R.cons (R.var (R.nil ⟨d, e, ks, goL ns, rfl, g1, W.w, (W.all e).mpr .here, fun p H2 S sd2 hp hS npd G2 => R.gName ?_⟩))
  obtain ⟨kvs, ad, gp, hk, hv, inj⟩ := G2.ex
  have s2 : Same H H2 := fun b o z => sd2.off b o (fun y => by rw [y, nd] at z; cases z) (s1 _ _ z)
  have hPt : PtS ns e S := ⟨hS, fun k => (hp.mem_iff).trans (W.all k)⟩
  refine R.ret (R.lc (R.seqIter (R.cb (R.cons (R.var (R.nil ⟨p, kvs, ks, rfl, .inl gp, hk, fun S2 ps hp2 hs2 nps => ?_⟩))))))
  have eS : S2 = S := sorted_uniq (sorted_strict hp2 hs2 W.w.nd) hS fun k => (hp2.mem_iff).trans hp.mem_iff.symm
  subst eS
  have s3 := same_upd (o := .lst (S2.map V.int)) nps
  have gs3 : (upd H2 ps (.lst (S2.map V.int))) ps = some (.lst (S2.map V.int)) := upd_same
  have gp3 := s3 _ _ gp
  have hv3 : ∀ k ∈ ks, (upd H2 ps (.lst (S2.map V.int))) (ad k) = some (.lst ((ldL (goL ns) e S2 k).map V.int)) := fun k hk => s3 _ _ (hv k hk).2.1
  generalize upd H2 ps (.lst (S2.map V.int)) = H3 at s3 gs3 gp3 hv3 ⊢
  have s03 := s2.trans s3
  refine .inl ⟨ps, rfl, ⟨_, SqL.of gs3⟩, fun C hC => ?_⟩
  have hC0 : H C = none := s03.free hC
  refine R.lcI walk_list (fun i H' => Same H3 H' ∧ ∃ xs, H' C = some (.lst xs) ∧ xs.length = i ∧ ∀ (j : Nat) (x : V), xs[j]? = some x → ∃ (t : Addr) (k : Int), S2[j]? = some k ∧ x = .ref t ∧ H' t = some (.tup [.int k, .ref (ad k)]) ∧ H t = none) ⟨same_upd hC, [], upd_same, rfl, fun _ _ z => by simp at z⟩ (fun i H' _ z => SqL.of (z.1 _ _ gs3)) ?_ ?_
  · rintro i x H4 H5 hi ⟨s4, xs, gC, lx, hxs⟩ ⟨rfl, hx⟩
    rw [List.length_map] at hi
    rw [List.getElem?_map, List.getElem?_eq_getElem hi] at hx
    obtain rfl := (Option.some.inj hx).symm
    have km : S2[i] ∈ ks := hp.mem_iff.mp (List.getElem_mem hi)
    have dg : DGet H5 p (.int S2[i]) (some (.ref (ad S2[i]))) := by
      rw [← (hv _ km).1]
      exact DGet.k (k := Sum.inl S2[i]) (s4 _ _ gp3)
    refine ⟨rfl, R.yes (iteT (R.tup (R.cons (R.var (R.cons (R.dget (R.var (R.var ⟨p, _, rfl, dg, R.nil ⟨by k_caughtN0, fun t ht => ?_⟩⟩))))))))⟩
    have s5 := same_upd (o := .tup [.int S2[i], .ref (ad S2[i])]) ht
    have ntC : t ≠ C := fun z => by rw [z, gC] at ht; cases ht
    have kl := W.w.kl
    have lS := hp.length_eq
    refine ⟨xs, s5 _ _ gC, Nat.lt_of_le_of_lt (m := 1300) (by omega) (by decide), Same.mut hC (s4.trans s5), xs ++ [.ref t], upd_same, by rw [List.length_append, lx]; rfl, fun j x hj => ?_⟩
    by_cases z : j < xs.length
    · rw [List.getElem?_append_left z] at hj
      obtain ⟨t2, k, h1, h2, h3, h4⟩ := hxs j x hj
      exact ⟨t2, k, h1, h2, upd_mut (fun y => by rw [y, gC] at h3; cases h3) (s5 _ _ h3), h4⟩
    · have lj : j < (xs ++ [V.ref t]).length := (List.getElem?_eq_some_iff.mp hj).1
      rw [List.length_append, List.length_singleton] at lj
      have ej : j = xs.length := by omega
      subst ej
      rw [List.getElem?_append_right (Nat.le_refl _), Nat.sub_self] at hj
      cases Option.some.inj hj
      exact ⟨t, S2[i], by rw [lx]; exact List.getElem?_eq_getElem hi, rfl, upd_mut ntC upd_same, (s03.trans s4).free ht⟩
  · rintro H4 ⟨s4, xs, gC, lx, hxs⟩
    rw [List.length_map] at lx
    refine q C H4 xs S2 (s03.trans s4) hC0 gC hPt ⟨ad, lx, hxs, fun k hk => ?_, fun j hj k hk => inj j (hp.mem_iff.mp hj) k (hp.mem_iff.mp hk)⟩
    have km := hp.mem_iff.mp hk
    exact ⟨s4 _ _ (hv3 k km), s1.free (hv k km).2.2.1, fun z => by
      have := hv3 k km
      rw [z, hC] at this
      cases this⟩
end
end Rl
namespace Rl
open PySem PySem.Spec PyProof.Rows L2
section
variable {K : PySem.W.Frag} {w : World}
theorem pure_behind_and_target (F : FindC K w) {vs : List V} {H : Hp} {Q : VK} {E : XK} (h : sp_behind_and_target K w vs H Q E) : t_behind_and_target K w { nx := fun _ H' => Q .non H', rt := Q } (start N_behind_and_target vs) H := by
  obtain ⟨c, ns, a, rfl, hc, hb, q⟩ := h
  unfold t_behind_and_target
  k_caught0
  refine ⟨c, ns, a, rfl, hc, hb, fun v H1 e1 hv => ?_⟩
  cases hr : rowAt ns a with
  | none =>
    rw [hr] at hv
    obtain rfl := dp_none hv
    k_caught0
    refine ⟨by k_caughtN0, fun p hp => q _ _ (by k_subL) ⟨p, rfl, ?_⟩⟩
    unfold behind tgt
    rw [hr]
    exact upd_same
  | some lm =>
    obtain ⟨l, m⟩ := lm
    obtain ⟨wd, rest, rfl, ht⟩ := row_shape hb hr
    rw [hr] at hv
    obtain ⟨p, r, xs, rfl, hp, hx, hxs⟩ := dp_at hv
    have hb1 : behind ns a = if wd ∈ endsT then none else some (a + m) := by
      unfold behind
      rw [hr]
      rfl
    have ht1 : tgt ns a = if wd ∈ tgtT then some (numOf (.str wd :: rest)) else none := by
      unfold tgt
      rw [hr]
      rfl
    k_caught0
    refine R.gPairT hp ?_
    k_caught0
    have hx0 := hx
    have fin : ∀ (x y : Option Int) H2, x = behind ns a → y = tgt ns a → Same H1 H2 → ∀ p2, H2 p2 = none → Q (.ref p2) (upd H2 p2 (.tup [optV x, optV y])) := by
      rintro x y H2 rfl rfl e2 p2 hp2
      exact q _ _ (by k_subL) ⟨p2, rfl, upd_same⟩
    refine R.inStrs (ws := endsT) (.inr (F.ends H1)) ?_
    k_caught0
    refine R.iD (fun he => ?_) (fun he => ?_)
    · rw [if_pos he] at hb1
      k_caught0
      refine R.inStrs (ws := tgtT) (.inr (F.mach.targets H1)) ?_
      k_caught0
      refine R.iD (fun hw => ?_) (fun hw => ?_)
      · obtain ⟨n, rfl⟩ := ht hw
        rw [DpAll.of_ints (ns := [n]) hxs] at hx0
        rw [if_pos hw] at ht1
        refine R.op ?_
        k_caught0
        exact ⟨by k_caughtN0, fin none (some n) H1 hb1.symm ht1.symm (Same.refl _)⟩
      · rw [if_neg hw] at ht1
        k_caught0
        exact ⟨by k_caughtN0, fin none none H1 hb1.symm ht1.symm (Same.refl _)⟩
    · rw [if_neg he] at hb1
      k_caught0
      refine R.inStrs (ws := tgtT) (.inr (F.mach.targets H1)) ?_
      k_caught0
      refine R.iD (fun hw => ?_) (fun hw => ?_)
      · obtain ⟨n, rfl⟩ := ht hw
        rw [DpAll.of_ints (ns := [n]) hxs] at hx0
        rw [if_pos hw] at ht1
        k_caught0
        exact ⟨by k_caughtN0, fin (some _) (some n) H1 hb1.symm ht1.symm (Same.refl _)⟩
      · rw [if_neg hw] at ht1
        k_caught0
        exact ⟨by k_caughtN0, fin (some _) none H1 hb1.symm ht1.symm (Same.refl _)⟩
end
end Rl
namespace Rl
open PySem PySem.Spec PyProof.Rows L2
section
variable {K : PySem.W.Frag} {w : World}
theorem pure_is_call {F : Prop} (_ : F) {vs : List V} {H : Hp} {Q : VK} {E : XK} (h : sp_is_call K w vs H Q E) : t_is_call K w { nx := fun _ H' => Q .non H', rt := Q } (start N_is_call vs) H := by
  obtain ⟨c, ns, a, rfl, hc, hb, q⟩ := h
  unfold t_is_call
  k_caught0
  refine ⟨c, ns, a, rfl, hc, hb, fun v H1 e1 hv => ?_⟩
  cases hr : rowAt ns a with
  | none =>
    rw [hr] at hv
    obtain rfl := dp_none hv
    k_caught0
    have z := q _ e1
    unfold isCall at z
    rw [hr] at z
    exact z
  | some lm =>
    obtain ⟨l, m⟩ := lm
    obtain ⟨wd, rest, rfl, ht⟩ := row_shape hb hr
    rw [hr] at hv
    obtain ⟨p, r, xs, rfl, hp, hx, hxs⟩ := dp_at hv
    k_caught0
    have z := q _ e1
    unfold isCall at z
    rw [hr] at z
    exact z
theorem pure_goes_on {F : Prop} (_ : F) {vs : List V} {H : Hp} {Q : VK} {E : XK} (h : sp_goes_on K w vs H Q E) : t_goes_on K w { nx := fun _ H' => Q .non H', rt := Q } (start N_goes_on vs) H := by
  obtain ⟨c, ns, a, rfl, hc, hb, q⟩ := h
  unfold t_goes_on
  k_caught0
  refine ⟨c, ns, a, rfl, hc, hb, fun v H1 e1 hv => ?_⟩
  obtain ⟨p, rfl, hp⟩ := hv
  refine R.gPair hp ?_
  k_caught0
  refine ⟨c, ns, a, rfl, hc.mono e1, hb, fun H2 e2 => ?_⟩
  have fin : ∀ (y : Option Int) σ, y = (if isCall ns a = true then none else tgt ns a) → σ = [some c, some (.int a), some (optV (behind ns a)), some (optV y), none] → tRet (tCB (rSortedSet w) (tCons (tScI w (iSeq K (tTup (tCons (tVar 2) (tCons (tVar 3) tNil)))) (gName 4) (tTest (tOp (rNotN) (tVar 4) (tC .non))) (tVar 4) [4]) tNil)) { nx := fun _ H' => Q .non H', rt := Q } σ H2 := by
    rintro y σ hy rfl
    k_caught0
    refine R.sc ?_
    k_caught0
    refine ⟨by k_caughtN0, fun p2 hp2 => ?_⟩
    refine .inr ⟨p2, rfl, ⟨_, SqT.of upd_same⟩, ?_⟩
    refine scOpts [behind ns a, y] (SqT.of upd_same) (Nat.le_of_ble_eq_true rfl) (fun _ => rfl) (fun _ => rfl) ?_
    intro D H3 S n hD e3 hS hn hm
    k_caught0
    refine ⟨D, S, n, rfl, hS, hn, fun L p3 hL hLm _ hp3 => ?_⟩
    refine q p3 _ L (by k_subL) ?_ upd_same ⟨hL, fun k => ?_⟩
    · exact (by k_subL : Same H H3).free hp3
    · rw [hLm k, hm k, hy]
      cases isCall ns a <;> simp [eq_comm]
  refine R.bl (R.iB (fun hcall => ?_) (fun hcall => ?_))
  · k_caught0
    exact fin none _ (by rw [if_pos hcall]) rfl
  · k_caught0
    exact fin (tgt ns a) _ (by rw [hcall]; rfl) rfl
end
end Rl
namespace Rl
open PySem PySem.Spec PyProof.Rows L2 NdefX LamX
/-- at a turn of all_from's while -/
def AFw (N : Int → Int → Prop) (first : Int) (f d l : Addr) (H : Hp) (m : Nat) (σ : L2.St) (H' : Hp) : Prop := ∃ (ks ws : List Int) (v4 : Option V), σ = [some (.int first), some (.ref f), some (.ref d), some (.ref l), v4] ∧ Same H H' ∧ H' d = some (.dK (dkv ks)) ∧ H' l = some (.lst (ws.map V.int)) ∧ AF N first ks ws ∧ m = 2 * (1300 - ks.length) + ws.length ∧ ws.length ≤ ks.length
/-- at a turn of its for -/
def AFf (N : Int → Int → Prop) (first : Int) (f d l p : Addr) (H : Hp) (x : Int) (L : List Int) (n0 n1 : Nat) (i : Nat) (σ : L2.St) (H' : Hp) : Prop := ∃ (ks ws : List Int) (v4 : Option V), σ = [some (.int first), some (.ref f), some (.ref d), some (.ref l), v4] ∧ Same H H' ∧ H' d = some (.dK (dkv ks)) ∧ H' l = some (.lst (ws.map V.int)) ∧
  H' p = some (.lst (L.map V.int)) ∧ AFi N first ks ws x L i ∧ n0 ≤ ks.length ∧ ws.length + n0 + 1 = n1 + ks.length
section
variable {K : PySem.W.Frag} {w : World}
theorem filt_opts (x y : Option Int) (k : Int) : k ∈ [x, y].filterMap id ↔ (x = some k ∨ y = some k) := by
  cases x <;> cases y <;> simp [eq_comm]
theorem pure_found_places_onward {F : Prop} (_ : F) {ws : List (Option V)} {vs : List V} {H : Hp} {Q : VK} {E : XK} (h : spCap (sp_found_places_onward K w) ws vs H Q E) : t_found_places_onward K w { nx := fun _ H' => Q .non H', rt := Q } (startF N_found_places_onward vs ws) H := by
  obtain ⟨a, rfl, ns, i, rfl, hc, hb, q⟩ := h
  unfold t_found_places_onward
  k_caught0
  refine R.lc ?_
  k_caught0
  refine ⟨.ref a, ns, i, rfl, hc, hb, fun v H1 e1 hv => ?_⟩
  obtain ⟨p, rfl, hp⟩ := hv
  refine .inr ⟨p, rfl, ⟨_, SqT.of hp⟩, ?_⟩
  refine lcOpts [behind ns i, tgt ns i] (SqT.of hp) (Nat.le_of_ble_eq_true rfl) (fun _ => rfl) (fun _ => rfl) ?_
  intro D H2 hD e2 hg
  exact q D H2 _ (e1.trans e2) (e1.free hD) hg (fun k => filt_opts _ _ k) (List.length_filterMap_le id _)
theorem pure_all_from {F : Prop} (_ : F) {vs : List V} {H : Hp} {Q : VK} {E : XK} (h : sp_all_from K w vs H Q E) : t_all_from K w { nx := fun _ H' => Q .non H', rt := Q } (start N_all_from vs) H := by
  obtain ⟨first, f, G, Nx, c, o, a, ns, rfl, hG, hcl, ho, hf, hk, hc, nf, nk, hcode, nac, hb, h0, hN, q⟩ := h
  unfold t_all_from
  k_caught0
  refine R.disp1 (i := first) (fun H' QE z => by k_caught0; exact z) ?_
  intro d hd
  k_caught0
  refine ⟨by k_caughtN0, fun l hl => ?_⟩
  have hld : l ≠ d := fun z => by
    rw [z, upd_same] at hl
    cases hl
  have hl0 : H l = none := upd_none (upd_none hl)
  k_caught0
  have e0 : Same H (upd (upd (upd H d (.dK [])) d (.dK (dkv [first]))) l (.lst [.int first])) := fun b v z => by
    rw [upd_ne (ne_of_none z hl0), upd_ne (ne_of_none z hd), upd_ne (ne_of_none z hd)]
    exact z
  refine R.whL (AFw (Nx ns) first f d l H) _ ⟨[first], [first], _, rfl, e0, upd_get hl upd_same, upd_same, AF.start, rfl, Nat.le_refl _⟩ ?_
  clear e0 hl
  rintro m σ H1 ⟨ks, ws, v4, rfl, e1, gd, gl, A, rfl, hwk⟩
  have hfew : ∀ k ∈ ks, Few k := fun k hk => rch_in (A.rch k hk) h0 hN
  have hkl : ks.length ≤ 1300 := len_below A.nd hfew
  k_caught0
  refine ⟨by k_caughtN0, fun le hle => ?_⟩
  refine R.neD (SqL.ints (ns := ws) (SqL.of (upd_get hle gl))) (.lst (SqL.of upd_same) .nil) (shaped_ints ws) (shaped_ints []) ?_
  rw [eqv_ints_nil]
  have e2 : Same H (upd H1 le (.lst [])) := sm_new hle e1
  have gd2 : (upd H1 le (.lst [])) d = some (.dK (dkv ks)) := upd_get hle gd
  have gl2 : (upd H1 le (.lst [])) l = some (.lst (ws.map V.int)) := upd_get hle gl
  generalize upd H1 le (.lst []) = H2 at e2 gd2 gl2 ⊢
  clear hle gd gl e1
  k_caught0
  refine R.iB (fun he => ?_) (fun he => ?_)
  · have hnil : ws = [] := by
      cases ws with
      | nil => rfl
      | cons _ _ => cases he
    subst hnil
    k_caught0
    refine R.sortedD gd2 fun ys p hperm hs hp => ?_
    exact q p _ ys (sm_new hp e2) (e2.free hp) upd_same (sorted_strict hperm hs A.nd) fun k => (hperm.mem_iff).trans (A.all k)
  · have hne : 0 < ws.length := by
      cases ws with
      | nil => cases he
      | cons _ _ => exact Nat.succ_pos _
    obtain ⟨x, hx⟩ : ∃ x, ws[ws.length - 1]? = some x := ⟨_, List.getElem?_eq_getElem (by omega)⟩
    refine ⟨fun σ' H' => ∃ m', m' < 2 * (1300 - ks.length) + ws.length ∧ AFw (Nx ns) first f d l H m' σ' H', fun _ _ z => z, ?_⟩
    k_caught0
    refine ⟨f, G, spOn K Nx, c, o, a, rfl, ⟨Nx, hG, rfl⟩, hcl, ho, e2 _ _ hf, ?_⟩
    k_caught0
    refine R.bm0 ?_
    k_caught0
    refine R.pop gl2 hx ?_
    k_caught0
    have e3 : Same H (upd H2 l (.lst (ws.dropLast.map V.int))) := Same.mut hl0 e2
    have gd3 : (upd H2 l (.lst (ws.dropLast.map V.int))) d = some (.dK (dkv ks)) := upd_mut hld.symm gd2
    have gl3 : (upd H2 l (.lst (ws.dropLast.map V.int))) l = some (.lst (ws.dropLast.map V.int)) := upd_same
    generalize upd H2 l (.lst (ws.dropLast.map V.int)) = H3 at e3 gd3 gl3 ⊢
    have hc3 := e3 _ _ hc
    refine ⟨e3 _ _ hf, e3 _ _ hk, hc3, nf, nk, ns, x, rfl, Code.but (hcode.mono e3) nac, hb, fun p H4 L e4 hp gp hL hLl n4 => ?_⟩
    have ndc : d ≠ c := (ne_of_none hc hd).symm
    have nlc : l ≠ c := (ne_of_none hc hl0).symm
    have npc : p ≠ c := fun z => by
      rw [z, n4] at gp
      cases gp
    have npd : p ≠ d := fun z => by
      rw [z, but_get ndc gd3] at hp
      cases hp
    have npl : p ≠ l := fun z => by
      rw [z, but_get nlc gl3] at hp
      cases hp
    have hp0 : H p = none := by
      cases z : H p with
      | none => rfl
      | some v =>
        rw [but_get npc (e3 _ _ z)] at hp
        cases hp
    have e5 : Same H3 (upd H4 c (CellO c o)) := same_put hc3 e4
    have gp5 : (upd H4 c (CellO c o)) p = some (.lst (L.map V.int)) := upd_mut npc gp
    generalize upd H4 c (CellO c o) = H5 at e5 gp5 ⊢
    have A0 : AFi (Nx ns) first ks ws.dropLast x L 0 := A.take hx
    refine R.forLI (ns := L) (AFf (Nx ns) first f d l p H x L ks.length ws.length) (SqL.of gp5) ⟨ks, ws.dropLast, v4, rfl, e3.trans e5, e5 _ _ gd3, e5 _ _ gl3, gp5, A0, Nat.le_refl _, ?_⟩ (fun i σ H' _ z => ?_) ?_ ?_
    · rw [List.length_dropLast]
      omega
    · obtain ⟨_, _, _, _, _, _, _, z, _⟩ := z
      exact SqL.of z
    · rintro i k σ H6 hki hkm hi ⟨ks6, ws6, v6, rfl, e6, gd6, gl6, gp6, A6, k6, l6⟩
      have hkl6 : ks6.length ≤ 1300 := len_below A6.nd fun k hk => rch_in (A6.rch k hk) h0 hN
      k_caught0
      refine R.dnot ?_
      k_caught0
      refine ⟨d, _, rfl, DGet.k (k := Sum.inl k) gd6, ?_⟩
      rw [dkv_get]
      k_caught0
      refine R.iD (fun hin => ?_) (fun hnot => ?_)
      · k_caught0
        exact ⟨ks6, ws6, _, rfl, e6, gd6, gl6, gp6, A6.old hki hin, k6, l6⟩
      · k_caught0
        refine R.dput ?_
        k_caught0
        refine R.dputI gd6 hnot (Nat.lt_of_le_of_lt hkl6 (by decide)) ?_
        have gl7 : (upd H6 d (.dK (dkv (ks6 ++ [k])))) l = some (.lst (ws6.map V.int)) := upd_mut hld gl6
        k_caught0
        refine R.appendI gl7 (Nat.lt_of_le_of_lt (m := 4000) (by omega) (by decide)) ?_
        refine ⟨ks6 ++ [k], ws6 ++ [k], _, rfl, Same.mut hl0 (Same.mut hd e6), upd_mut hld.symm upd_same, upd_same, upd_mut npl (upd_mut npd gp6), A6.new hki hnot ((hL k).mp hkm), ?_, ?_⟩
        · rw [List.length_append]
          omega
        · rw [List.length_append, List.length_append]
          simp only [List.length_cons, List.length_nil]
          omega
    · rintro σ H6 ⟨ks6, ws6, v6, rfl, e6, gd6, gl6, gp6, A6, k6, l6⟩
      have hkl6 : ks6.length ≤ 1300 := len_below A6.nd fun k hk => rch_in (A6.rch k hk) h0 hN
      exact ⟨2 * (1300 - ks6.length) + ws6.length, by omega, ks6, ws6, v6, rfl, e6, gd6, gl6, A6.done hL, rfl, by omega⟩
theorem pure_found_places {F : Prop} (_ : F) (cc : Addr) {vs : List V} {H : Hp} {Q : VK} {E : XK} (h : sp_found_places K w vs H Q E) : t_found_places K w cc { nx := fun _ H' => Q .non H', rt := Q } (start N_found_places vs) H := by
  obtain ⟨c, ns, rfl, hcode, hb, hl, hT, q⟩ := h
  obtain ⟨a, rfl, hcode0⟩ := id hcode
  unfold t_found_places
  refine R.seq ⟨hT, fun f c' H1 eN T1 f0 f1 c1 => ?_⟩
  k_caught0
  refine R.callC ?_
  k_caught0
  refine ⟨a, rfl, fun o ho k1 n1 => ?_⟩
  have nf : f ≠ cc := ne_of_none f1 n1
  have nk : c' ≠ cc := ne_of_none c1 n1
  have code1 := ExtN.code eN hcode
  have nac : a ≠ cc := fun z => by
    obtain ⟨p, e, g⟩ := code1
    cases e
    rw [z] at g
    rcases g with ((g | ⟨o, g⟩) | ⟨o, its, n, g, _⟩) | ((g | ⟨o, g⟩) | ⟨o, its, n, g, _⟩) <;> first
      | (rw [n1] at g; cases g)
      | (rw [k1] at g; cases g)
  refine ⟨0, f, _, NxA, cc, o, a, ns, rfl, nxt_found_places _ _, rfl, ho, upd_get n1 f1, upd_get n1 c1, upd_same, nf, nk, code1.mono (same_upd n1), nac, hb, ⟨by decide, by decide⟩, fun x k => nxA_few hb hl, fun p H2 L e2 hp gp hLs hm => ⟨e2 _ _ upd_same, ?_⟩⟩
  have npc : p ≠ cc := fun z => by
    rw [z, upd_same] at hp
    cases hp
  have e3 : Same H1 (but cc H2) := fun b v z => but_get (ne_of_none z n1) (e2 _ _ (upd_get n1 z))
  refine q p (but cc H2) L (eN.trans (ExtN.ofSame e3)) (TabsN.same T1 e3) ?_ (but_get npc gp) ⟨hLs, hm⟩
  cases z : noT H p with
  | none => rfl
  | some v =>
    have y := upd_get (o := CellO cc o) n1 (extN_noT eN _ _ z)
    rw [hp] at y
    cases y
end
end Rl
namespace Rl
open PySem PySem.Spec PyProof.Rows L2 NdefX LamX
def pairE (ns : List Int) (a : Int) : PyData := .tuple [.int a, atD (rowAt ns a)]
theorem nl_pairE (ns : List Int) (a : Int) : NL 3 (pairE ns a) := fun d hd => by
  rcases List.mem_cons.mp hd with rfl | hd
  · exact True.intro
  · rw [List.mem_singleton.mp hd]
    exact nl_atD ns a
/-- the second of the pair -/
def rowO (ns : List Int) (a : Int) : PyData := match rowAt ns a with
  | some (l, _) => .tuple l
  | none => .none
theorem rowE_eq (ns : List Int) (a : Int) : rowE ns a = .tuple [.int a, rowO ns a] := rfl
theorem nl_rowE (ns : List Int) (a : Int) : NL 2 (rowE ns a) := fun d hd => by
  rcases List.mem_cons.mp hd with rfl | hd
  · exact True.intro
  · rw [List.mem_singleton.mp hd]
    cases h : rowAt ns a with
    | none => exact True.intro
    | some p =>
      obtain ⟨l, m⟩ := p
      exact fun e he => ((row_flat h).2 e he).nl 0
theorem nrw_rows (ns L : List Int) (hL : L.length ≤ 1300) : Nrw 3 (.list (L.map (rowE ns))) := by
  refine ⟨Nat.lt_of_le_of_lt (m := 1300) (by rw [List.length_map]; exact hL) (by decide), fun d hd => ?_⟩
  obtain ⟨a, _, rfl⟩ := List.mem_map.mp hd
  refine ⟨Nat.lt_of_le_of_lt (m := 2) (Nat.le_refl 2) (by decide), fun d hd => ?_⟩
  rcases List.mem_cons.mp hd with rfl | hd
  · exact True.intro
  · rw [List.mem_singleton.mp hd]
    cases h : rowAt ns a with
    | none => exact True.intro
    | some p =>
      obtain ⟨l, m⟩ := p
      obtain ⟨f1, f2⟩ := row_flat h
      exact ⟨Nat.lt_of_le_of_lt (m := 3) f1 (by decide), fun e he => (f2 e he).nrw 0⟩
section
variable {K : PySem.W.Frag} {w : World}
/-- (address, None if row is None else row[0]) -/
theorem row_pair {σ : L2.St} {H : Hp} {Q : VK} {ns : List Int} {a : Int} {v : V} {i j : Nat} (hi : σ[i]? = some (some (.int a))) (hj : σ[j]? = some (some v)) (hv : Dp K H v (atD (rowAt ns a)))
    (q : ∀ p x, H p = none → Dp K H x (rowO ns a) → Dp K (upd H p (.tup [.int a, x])) (.ref p) (rowE ns a) → Q (.ref p) (upd H p (.tup [.int a, x]))) :
    tTup (tCons (tVar i) (tCons (tIf (tTest (tOp (rIsN) (tVar j) (tC .non))) (tC .non) (tOp (rIx K) (tVar j) (tC (.int 0)))) tNil)) σ H Q := by
  have fin : ∀ x, Dp K H x (rowO ns a) → ∀ p, H p = none → Q (.ref p) (upd H p (.tup [.int a, x])) := fun x hx p hp => q p x hp hx (.tup (SqT.of upd_same) (.cons (.int _) (.cons (Dp.mono (same_upd hp) hx) .nil)))
  refine R.tup (R.cons (R.var (R.cons (R.ifE (R.test (R.op (R.var (R.c ?_) hj)))) ) hi))
  cases h : rowAt ns a with
  | none =>
    rw [h] at hv
    obtain rfl := dp_none hv
    refine R.isNn (R.bl (R.iT (R.c (R.nil ⟨by k_caughtN0, fin .non ?_⟩))))
    unfold rowO
    rw [h]
    exact .non
  | some lm =>
    obtain ⟨l, m⟩ := lm
    rw [h] at hv
    obtain ⟨p, xs, rfl, hp, ha⟩ := dp_tup hv
    cases ha with
    | cons a1 t1 =>
      cases t1 with
      | cons a2 t2 =>
        cases t2
        refine R.isNr (R.bl (R.iF (R.op (R.var (R.c (R.ixT0 hp (R.nil ⟨by k_caughtN0, fin _ ?_⟩))) hj))))
        unfold rowO
        rw [h]
        exact a1
theorem pure_found_rows {F : Prop} (_ : F) {vs : List V} {H : Hp} {Q : VK} {E : XK} (h : sp_found_rows K w vs H Q E) : t_found_rows K w { nx := fun _ H' => Q .non H', rt := Q } (start N_found_rows vs) H := by
  obtain ⟨c, ns, rfl, hc, hb, hl, hT, q⟩ := h
  unfold t_found_rows
  k_caught0
  refine R.lc ?_
  k_caught0
  refine ⟨c, ns, rfl, hc, hb, hl, hT, fun p H1 L e1 T1 np gp hL => ?_⟩
  obtain ⟨hL1, hL2⟩ := hL.few hb hl
  have hLs : L.length < sizeLine := Nat.lt_of_le_of_lt hL1 (by decide)
  have hc1 : Code K H1 c ns := ExtN.code e1 hc
  refine .inl ⟨p, rfl, ⟨_, SqL.of gp⟩, ?_⟩
  refine lcDp (K := K) (walk_list (a := p) (xs := L.map V.int)) (fun i => pairE ns (L.getD i 0)) (by rw [List.length_map]; exact hLs) (fun H' e => SqL.of (e _ _ gp)) ?_ ?_
  · rintro D i x H2 H' Q' hD hi e2 ⟨ys, hy⟩ ⟨rfl, hx⟩ key
    rw [List.length_map] at hi
    rw [List.getElem?_map, List.getElem?_eq_getElem hi] at hx
    obtain rfl : V.int L[i] = x := Option.some.inj hx
    have eg : L.getD i 0 = L[i] := by rw [List.getD_eq_getElem?_getD, List.getElem?_eq_getElem hi]; rfl
    rw [eg] at key
    refine ⟨rfl, ?_⟩
    k_caught0
    refine ⟨c, ns, L[i], rfl, hc1.mono e2, hb, fun v H3 e3 hv => ?_⟩
    k_caught0
    refine ⟨by k_caughtN0, fun p2 hp2 => key _ _ (sm_new hp2 e3) ?_⟩
    exact Dp.off (upd_get hp2 (e3 _ _ hy)) (nl_pairE ns L[i]) (.tup (SqT.of upd_same) (.cons (.int _) (.cons (Dp.mono (same_upd hp2) hv) .nil)))
  intro D H4 xs hD e4 gD dD
  rw [List.length_map, range_map (pairE ns) 0 L] at dD
  have dD4 : DpAll K H4 xs (L.map (pairE ns)) := DpAll.mono but_same dD
  have hxl : xs.length = L.length := by rw [DpAll.length dD4, List.length_map]
  k_caught0
  refine R.lc ?_
  k_caught0
  refine .inl ⟨D, rfl, ⟨_, SqL.of gD⟩, ?_⟩
  refine lcDp (K := K) (walk_list (a := D) (xs := xs)) (fun i => rowE ns (L.getD i 0)) (by rw [hxl]; exact hLs) (fun H' e => SqL.of (e _ _ gD)) ?_ ?_
  · rintro D2 i x H5 H' Q' hD2 hi e5 ⟨ys, hy⟩ ⟨rfl, hx⟩ key
    obtain ⟨d, hd, hv⟩ := DpAll.get dD4 hx
    have hi2 : i < L.length := by omega
    rw [List.getElem?_map, List.getElem?_eq_getElem hi2] at hd
    obtain rfl : pairE ns L[i] = d := Option.some.inj hd
    have eg : L.getD i 0 = L[i] := by rw [List.getD_eq_getElem?_getD, List.getElem?_eq_getElem hi2]; rfl
    rw [eg] at key
    obtain ⟨p3, zs, rfl, hp3, ha⟩ := dp_tup hv
    cases ha with
    | cons a1 t1 =>
      cases t1 with
      | cons a2 t2 =>
        cases t2
        rw [dp_int a1] at hp3
        refine R.gPairT (SqT.mono e5 hp3) ⟨rfl, ?_⟩
        refine row_pair (ns := ns) (a := L[i]) rfl rfl (Dp.mono e5 a2) fun p4 x hp4 _ hd4 => ?_
        exact key _ _ (same_upd hp4) (Dp.off (upd_get hp4 hy) (nl_rowE ns L[i]) hd4)
  intro D2 H6 xs2 hD2 e6 gD2 dD2
  rw [hxl, range_map (rowE ns) 0 L] at dD2
  have ex : ExtN H H6 := e1.trans (ExtN.ofSame (e4.trans e6))
  exact q D2 H6 xs2 L ex (TabsN.same T1 (e4.trans e6)) (ExtN.free (e1.trans (ExtN.ofSame e4)) hD2) gD2 (DpAll.mono but_same dD2) hL
end
end Rl
namespace Rl
open PySem PySem.Spec PyProof.Rows L2
/-! ## turns back -/
section
variable {K : PySem.W.Frag} {w : World} {vs : List V} {H0 H H' : Hp} {Q : VK} {E : XK} {d D l q : Addr} {ks S : List Int} {f : Int → List Int} {k x e : Int} {xs : List V} {ps : List (Int × Int)} {ao : Int × Int}
theorem same_smw {H1 H2 : Hp} (s : Same H H1) (nd : H d = none) (sd : SmW d H1 H2) : Same H H2 := fun b u z => sd.off b u (fun y => by rw [y, nd] at z; cases z) (s b u z)
theorem TpL.snoc (h : TpL H0 H xs ps) (g : H q = some (.tup [.int ao.1, .int ao.2])) (n : H0 q = none) : TpL H0 H (xs ++ [.ref q]) (ps ++ [ao]) := by
  refine ⟨by rw [List.length_append, List.length_append, h.1]; rfl, fun j x hj => ?_⟩
  by_cases z : j < xs.length
  · rw [List.getElem?_append_left z] at hj
    obtain ⟨q', ao', h1, h2⟩ := h.2 j x hj
    exact ⟨q', ao', by rw [List.getElem?_append_left (by rw [← h.1]; exact z)]; exact h1, h2⟩
  · have z : xs.length ≤ j := by omega
    rw [List.getElem?_append_right z] at hj
    have zj : j - xs.length = 0 := by
      cases y : j - xs.length with
      | zero => rfl
      | succ n =>
        rw [y] at hj
        cases hj
    rw [zj] at hj
    cases hj
    exact ⟨q, ao, by rw [List.getElem?_append_right (by rw [← h.1]; exact z), ← h.1, zj]; rfl, rfl, g, n⟩
theorem TpL.keep (h : TpL H0 H xs ps) (s : ∀ q ys, H q = some (.tup ys) → H' q = some (.tup ys)) : TpL H0 H' xs ps := ⟨h.1, fun j x hj => by
  obtain ⟨q', ao', h1, h2, h3, h4⟩ := h.2 j x hj
  exact ⟨q', ao', h1, h2, s _ _ h3, h4⟩⟩
theorem tup_mut {o : HO} {ys : List V} (g : H D = some (.lst ys)) : ∀ q us, H q = some (.tup us) → upd H D o q = some (.tup us) := fun q us e => upd_mut (fun z => by rw [z, g] at e; cases e) e
theorem GrD.at_ (h : GrD H d ks f) (hk : k ∈ ks) : ∃ l, (∀ H', Same H H' → DGet H' d (.int k) (some (.ref l))) ∧ H l = some (.lst ((f k).map V.int)) := by
  obtain ⟨kvs, rd, _, hv⟩ := h
  obtain ⟨l, h1, h2⟩ := hv k hk
  exact ⟨l, fun H' s => by rw [← h1]; exact .inl ⟨kvs, Sum.inl k, rd_same s rd, rfl, rfl⟩, h2⟩
theorem GrN.at_ {g : Int → List Int} (h : GrN H0 H D ks g) (hk : k ∈ ks) : ∃ l, (∀ H', Same H H' → DGet H' D (.int k) (some (.ref l))) ∧ H l = some (.lst ((g k).map V.int)) := by
  obtain ⟨kvs, ad, h1, h2, h3, h4⟩ := h.ex
  obtain ⟨a, b, _, _⟩ := h3 k hk
  exact ⟨ad k, fun H' s => by rw [← a]; exact DGet.k (k := Sum.inl k) (s _ _ h1), b⟩
theorem tk1 {L : List Int} {i : Nat} (hx : L[i]? = some x) : L.take (i + 1) = L.take i ++ [x] := by
  rw [List.take_add_one, hx]
  rfl
theorem pure_turns_back {F : Prop} (_ : F) (h : sp_turns_back K w vs H Q E) : t_turns_back K w { nx := fun _ H' => Q .non H', rt := Q } (start N_turns_back vs) H := by
  obtain ⟨d, e, ks, f, rfl, hg, hw, he, q⟩ := h
  unfold t_turns_back
  refine R.seq (R.asg (R.call (R.cons (R.var (R.cons (R.var (R.nil ⟨d, e, ks, f, rfl, hg, hw, he, fun po H1 S s1 hS hs npo gN => R.gName ?_⟩)))))))
  have hg1 := hg.smd s1
  obtain ⟨kvs0, rd0, _, _⟩ := hg
  obtain ⟨kvs, rd, hk, hv⟩ := id hg1
  have fr : ∀ {b}, H1 b = none → H b = none ∧ b ≠ d := fun {b} n => ⟨s1.free (rd_ne rd n) n, rd_ne rd n⟩
  refine R.ret (R.lc2 (R.seqIter (R.cb (R.cons (R.var (R.nil ⟨d, kvs, ks, rfl, rd, hk, fun S2 p hp hs2 np => .inl ⟨p, rfl, ⟨_, SqL.of upd_same⟩, fun D hD => ?_⟩⟩))))))
  obtain rfl : S2 = S := sorted_uniq (sorted_strict hp hs2 hw.nd) hs fun k => (hp.mem_iff).trans hS.mem_iff.symm
  have s2 := same_upd (o := .lst (S2.map V.int)) np
  have gp2 : (upd H1 p (.lst (S2.map V.int))) p = some (.lst (S2.map V.int)) := upd_same
  have hD1 : H1 D = none := s2.free hD
  generalize upd H1 p (.lst (S2.map V.int)) = H2 at s2 gp2 hD ⊢
  have mk : ∀ k ∈ S2, k ∈ ks := fun k h => hS.mem_iff.mp h
  have lS : S2.length ≤ 1300 := by
    rw [hS.length_eq]
    exact hw.kl
  refine R.lc2I walk_list (fun i H' => Same H2 H' ∧ ∃ xs, H' D = some (.lst xs) ∧ TpL H1 H' xs (trnL f e (S2.take i))) ⟨same_upd hD, [], upd_same, rfl, fun j x hj => nomatch hj⟩ (fun i H' _ z => SqL.of (z.1 _ _ gp2)) ?_ ?_
  · rintro i x H3 H4 hi ⟨s3, xs, gD, hT⟩ ⟨rfl, hx⟩
    rw [List.getElem?_map] at hx
    obtain ⟨a, ha, rfl⟩ := Option.map_eq_some_iff.mp hx
    have aS := List.mem_of_getElem? ha
    have ak := mk a aS
    obtain ⟨l, dl, gl⟩ := (hg1.same s2).at_ ak
    obtain ⟨m, dm, gm⟩ := (gN.same s2).at_ ak
    have nlD : l ≠ D := fun z => by rw [z, hD] at gl; cases gl
    refine ⟨rfl, R.yes (iteT (R.seqIter (R.dget (R.var (R.var ⟨d, _, rfl, dl _ s3, .inl ⟨l, rfl, ⟨_, SqL.of (s3 _ _ gl)⟩, ?_⟩⟩)))))⟩
    have bnd : (trnL f e (S2.take i)).length ≤ 1300 * i := Nat.le_trans (trnL_len hw e fun k hk => mk k (List.mem_of_mem_take hk)) (Nat.mul_le_mul_left _ (List.length_take_le ..))
    rw [List.length_map] at hi
    refine R.lc2In walk_list (fun j H' => Same H2 H' ∧ ∃ xs, H' D = some (.lst xs) ∧ TpL H1 H' xs (trnL f e (S2.take i) ++ (((f a).take j).filter (isTurn f e a)).map fun o => (a, o))) ⟨s3, xs, gD, by rw [List.take_zero, List.filter_nil, List.map_nil, List.append_nil]; exact hT⟩ (fun j H' _ z => SqL.of (z.1 _ _ gl)) ?_ ?_
    · clear s3 gD hT
      rintro j y H5 H6 hj ⟨s5, xs, gD, hT⟩ ⟨rfl, hy⟩
      rw [List.length_map] at hj
      rw [List.getElem?_map] at hy
      obtain ⟨o, ho, rfl⟩ := Option.map_eq_some_iff.mp hy
      have om := List.mem_of_getElem? ho
      have oS : o ∈ S2 := hS.mem_iff.mpr (hw.clo a ak o om)
      have le := hw.len a ak
      refine ⟨rfl, R.test (R.op (R.var (R.dget (R.var (R.var ⟨po, _, rfl, dm _ s5, R.inInts (.inl (SqL.of (s5 _ _ gm))) (R.bl ?_)⟩)))))⟩
      have ht : decide (o ∈ ldL f e S2 a) = isTurn f e a o := by
        unfold ldL
        cases hb : isTurn f e a o with
        | true => exact decide_eq_true (List.mem_filter.mpr ⟨oS, hb⟩)
        | false =>
          exact decide_eq_false fun z => by
            have z2 : isTurn f e a o = true := (List.mem_filter.mp z).2
            rw [hb] at z2
            cases z2
      rw [ht, tk1 ho, List.filter_append, List.map_append]
      have bnd2 : xs.length ≤ 1300 * i + j := by
        rw [hT.1, List.length_append, List.length_map]
        exact Nat.add_le_add bnd (Nat.le_trans (List.length_filter_le _ _) (List.length_take_le ..))
      cases hb : isTurn f e a o with
      | false =>
        refine R.iF ⟨s5, xs, gD, ?_⟩
        rw [List.filter_cons, hb]
        show TpL H1 H6 xs (_ ++ (_ ++ []))
        rw [List.append_nil]
        exact hT
      | true =>
        refine R.iT (R.tup (R.cons (R.var (R.cons (R.var (R.nil ⟨by k_caughtN0, fun t ht => ?_⟩))))))
        have s7 := same_upd (o := .tup [V.int a, .int o]) ht
        have ntD : t ≠ D := fun z => by rw [z, gD] at ht; cases ht
        have ht1 : H1 t = none := (s2.trans s5).free ht
        refine ⟨xs, s7 _ _ gD, Nat.lt_of_le_of_lt (m := 1700000) (by omega) (by decide), Same.mut hD (s5.trans s7), _, upd_same, ?_⟩
        rw [List.filter_cons, hb]
        show TpL H1 _ _ (_ ++ (_ ++ [(a, o)]))
        rw [← List.append_assoc]
        exact TpL.snoc ((hT.keep fun q us e => s7 _ _ e).keep (tup_mut (s7 _ _ gD))) (tup_mut (s7 _ _ gD) t _ upd_same) ht1
    · rintro H5 ⟨s5, xs, gD, hT⟩
      rw [List.length_map, List.take_length] at hT
      refine ⟨s5, xs, gD, ?_⟩
      rw [tk1 ha, trnL_app, trnL_one]
      exact hT
  · rintro H3 ⟨s3, xs, gD, hT⟩
    rw [List.length_map, List.take_length] at hT
    exact q D H3 xs S2 (s1.trans (SmW.of (s2.trans s3))) hS hs (fr hD1).1 (fr hD1).2 gD ⟨hT.1, fun j x hj => by
      obtain ⟨t, ao, h1, h2, h3, h4⟩ := hT.2 j x hj
      exact ⟨t, ao, h1, h2, h3, (fr h4).1⟩⟩
end
end Rl
namespace Rl
open PySem PySem.Spec PyProof.Rows L2
/-! ## dict([(x, v) for x in xs]) -/
theorem merge_app : ∀ {r acc : List (Key × V)}, (r.map Prod.fst).Nodup → (∀ k ∈ r.map Prod.fst, k ∉ acc.map Prod.fst) → mergeK acc r = acc ++ r
  | [], acc, _, _ => (List.append_nil _).symm
  | p :: r, acc, hn, hd => by
    rw [List.map_cons, List.nodup_cons] at hn
    show mergeK (putK acc p.1 p.2) r = _
    have e : putK acc p.1 p.2 = acc ++ [p] := putK_new _ (by
      cases z : valV acc p.1 with
      | none => rfl
      | some v => exact absurd (valV_in z) (hd p.1 (List.mem_cons_self ..)))
    rw [e, merge_app hn.2, List.append_assoc]
    · rfl
    · intro k hk
      rw [List.map_append, List.mem_append, not_or]
      refine ⟨hd k (List.mem_cons_of_mem _ hk), fun z => ?_⟩
      have : k = p.1 := by simpa using z
      exact hn.1 (this ▸ hk)
/-- pairs by their keys -/
def KvI (R : Int → V → Prop) : List (Key × V) → List Int → Prop
  | [], [] => True
  | kv :: r, e :: es => kv.1 = Sum.inl e ∧ R e kv.2 ∧ KvI R r es
  | _, _ => False
theorem KvI.keys {R : Int → V → Prop} : ∀ {kvs : List (Key × V)} {es : List Int}, KvI R kvs es → kvs.map Prod.fst = es.map Sum.inl
  | [], [], _ => rfl
  | kv :: r, e :: es, h => by rw [List.map_cons, List.map_cons, h.1, KvI.keys h.2.2]
  | [], _ :: _, h => h.elim
  | _ :: _, [], h => h.elim
theorem KvI.get {R : Int → V → Prop} : ∀ {kvs : List (Key × V)} {es : List Int}, KvI R kvs es → ∀ e ∈ es, ∃ v, valV kvs (Sum.inl e) = some v ∧ R e v
  | [], [], _, e, he => nomatch he
  | kv :: r, x :: es, h, e, he => by
    by_cases z : x = e
    · subst z
      exact ⟨kv.2, valV_pos h.1, h.2.1⟩
    · obtain ⟨v, h1, h2⟩ := KvI.get h.2.2 e ((List.mem_cons.mp he).elim (fun y => absurd y.symm z) id)
      exact ⟨v, by rw [valV_neg (fun y => z (by rw [h.1] at y; exact Sum.inl.inj y))]; exact h1, h2⟩
  | [], _ :: _, h, _, _ => h.elim
  | _ :: _, [], h, _, _ => h.elim
theorem KvI.dkv : ∀ {kvs : List (Key × V)} {es : List Int}, KvI (fun _ v => v = .bl true) kvs es → kvs = Rl.dkv es
  | [], [], _ => rfl
  | kv :: r, e :: es, h => by
    rw [KvI.dkv h.2.2]
    show kv :: Rl.dkv es = (Sum.inl e, V.bl true) :: Rl.dkv es
    rw [← h.1, ← h.2.1]
  | [], _ :: _, h => h.elim
  | _ :: _, [], h => h.elim
theorem inl_nodup {es : List Int} (h : es.Nodup) : (es.map (Sum.inl : Int → Key)).Nodup := by
  refine List.nodup_iff_pairwise_ne.mpr ?_
  rw [List.pairwise_map]
  exact (List.nodup_iff_pairwise_ne.mp h).imp fun z y => z (Sum.inl.inj y)
section
variable {K : PySem.W.Frag} {σ : L2.St} {H H' : Hp} {Q : VK}
theorem pairs_kv {R : Int → V → Prop} : ∀ {es : List Int} {xs : List V}, xs.length = es.length → (∀ (j : Nat) (x : V) (e : Int), xs[j]? = some x → es[j]? = some e → ∃ q v, x = .ref q ∧ SqT K H q [.int e, v] ∧ R e v) →
    ∃ (ps : List Addr) (kvs : List (Key × V)), xs = ps.map V.ref ∧ Paired (fun p kv => SqT K H p [kV kv.1, kv.2]) ps kvs ∧ KvI R kvs es
  | [], [], _, _ => ⟨[], [], rfl, .nil, trivial⟩
  | [], _ :: _, h, _ => by simp at h
  | _ :: _, [], h, _ => by simp at h
  | e :: es, x :: xs, h, f => by
    obtain ⟨q, v, rfl, hq, hR⟩ := f 0 x e rfl rfl
    obtain ⟨ps, kvs, rfl, hp, hk⟩ := pairs_kv (es := es) (xs := xs) (by simpa using h) fun j y d h1 h2 => f (j + 1) y d (by simpa using h1) (by simpa using h2)
    exact ⟨q :: ps, (Sum.inl e, v) :: kvs, rfl, .cons hq hp, rfl, hR, hk⟩
/-- a value: True, or a thing of a kind -/
def RV (c : Prop) (T : Int → Addr → HO → Prop) (H : Hp) (x : Int) (v : V) : Prop := (c ∧ v = .bl true) ∨ ∃ l o, v = .ref l ∧ H l = some o ∧ T x l o
/-- {x: v for x of a list}, by dict of a list of pairs -/
theorem R.dictLc {S : List Int} {a : Addr} {te : TE} {i j : Nat} {c : Prop} {T : Int → Addr → HO → Prop} (hS : SqL K H a (S.map V.int)) (hl : S.length < sizeLine) (hn : S.Nodup) (hi : σ[i]? = some (some (.ref a))) (hw : ∀ x, wipe ((wipe σ [j]).set j (some x)) [j] = wipe σ [j]) (hg : ∀ x : V, ((wipe σ [j]).set j (some x))[j]? = some (some x))
    (he : ∀ x H', x ∈ S → Same H H' → ∀ Q : VK, (∀ v H'', Same H' H'' → ((c ∧ v = .bl true) ∨ ∃ l o, v = .ref l ∧ H'' l = some o ∧ T x l o ∧ (H' l = none ∨ ∃ u, H l = some u)) → Q v H'') → te ((wipe σ [j]).set j (some (.int x))) H' Q)
    (q : ∀ d H' kvs, Same H H' → H d = none → H' d = some (.dK kvs) → KvI (RV c (fun x l o => T x l o ∧ l ≠ d) H') kvs S → Q (.ref d) H') :
    tCB (rDictP K) (tCons (tLc (iSeq K (tVar i)) (L2.gName j) tYes (tTup (tCons (tVar j) (tCons te tNil))) [j]) tNil) σ H Q := by
  refine R.cb (R.cons (R.lc (R.seqIter (R.var ?_ hi))))
  refine .inl ⟨a, rfl, ⟨_, hS⟩, fun C hC => ?_⟩
  refine R.lcI walk_list (fun n H' => Same H H' ∧ ∃ xs, H' C = some (.lst xs) ∧ xs.length = n ∧ ∀ (m : Nat) (x : V), xs[m]? = some x → ∃ (t : Addr) (k : Int) (v : V), S[m]? = some k ∧ x = .ref t ∧ H' t = some (.tup [.int k, v]) ∧ ((c ∧ v = .bl true) ∨ ∃ l o, v = .ref l ∧ H' l = some o ∧ T k l o ∧ l ≠ C)) ⟨same_upd hC, [], upd_same, rfl, fun _ _ z => by simp at z⟩ (fun n H' _ z => SqL.mono z.1 hS) ?_ ?_
  · rintro n x H1 H2 hn' ⟨s1, xs, gC, lx, hxs⟩ ⟨rfl, hx⟩
    rw [List.length_map] at hn'
    rw [List.getElem?_map, List.getElem?_eq_getElem hn'] at hx
    obtain rfl := (Option.some.inj hx).symm
    refine ⟨hw _, R.yes (iteT (R.tup (R.cons (R.var (R.cons (he _ _ (List.getElem_mem hn') s1 _ fun v H3 s3 hv => R.nil ⟨by k_caughtN0, fun t ht => ?_⟩)) (hg _)))))⟩
    have s4 := same_upd (o := .tup [.int S[n], v]) ht
    have gC3 := s3 _ _ gC
    have ntC : t ≠ C := fun z => by rw [z, gC3] at ht; cases ht
    refine ⟨xs, s4 _ _ gC3, Nat.lt_of_le_of_lt (m := S.length) (by omega) hl, Same.mut hC (s1.trans (s3.trans s4)), xs ++ [.ref t], upd_same, by rw [List.length_append, lx]; rfl, fun m x hm => ?_⟩
    by_cases z : m < xs.length
    · rw [List.getElem?_append_left z] at hm
      obtain ⟨t2, k, v2, h1, h2, h3, h4⟩ := hxs m x hm
      have h3' := (s3.trans s4) _ _ h3
      refine ⟨t2, k, v2, h1, h2, upd_mut (fun y => by rw [y, gC] at h3; cases h3) h3', h4.imp id fun ⟨l, o, e1, e2, e3, e4⟩ => ⟨l, o, e1, upd_mut e4 ((s3.trans s4) _ _ e2), e3, e4⟩⟩
    · have lj : m < (xs ++ [V.ref t]).length := (List.getElem?_eq_some_iff.mp hm).1
      rw [List.length_append, List.length_singleton] at lj
      have ej : m = xs.length := by omega
      subst ej
      rw [List.getElem?_append_right (Nat.le_refl _), Nat.sub_self] at hm
      cases Option.some.inj hm
      refine ⟨t, S[n], v, by rw [lx]; exact List.getElem?_eq_getElem hn', rfl, upd_mut ntC upd_same, hv.imp id fun ⟨l, o, e1, e2, e3, e4⟩ => ?_⟩
      have nlC : l ≠ C := fun y => by
        subst y
        rcases e4 with e4 | ⟨u, e4⟩
        · rw [gC] at e4
          cases e4
        · rw [hC] at e4
          cases e4
      exact ⟨l, o, e1, upd_mut nlC (s4 _ _ e2), e3, nlC⟩
  · rintro H1 ⟨s1, xs, gC, lx, hxs⟩
    rw [List.length_map] at lx
    obtain ⟨ps, kvs, rfl, hp, hk⟩ := pairs_kv (K := K) (H := H1) (R := RV c T H1) (es := S) (xs := xs) lx fun m x e h1 h2 => by
      obtain ⟨t, k, v, g1, rfl, g3, g4⟩ := hxs m x h1
      rw [h2] at g1
      cases g1
      exact ⟨t, v, rfl, SqT.of g3, g4.imp id fun ⟨l, o, e1, e2, e3, _⟩ => ⟨l, o, e1, e2, e3⟩⟩
    refine R.nil ⟨C, ps, kvs, rfl, SqL.of gC, hp, fun d hd => ?_⟩
    have e : mergeK [] kvs = kvs := merge_app (by rw [hk.keys]; exact inl_nodup hn) (fun _ _ z => nomatch z)
    rw [e]
    have s2 := same_upd (o := .dK kvs) hd
    exact q d _ kvs (s1.trans s2) (s1.free hd) upd_same (kvmono (fun x v h => h.imp id fun ⟨l, o, e1, e2, e3⟩ => ⟨l, o, e1, s2 _ _ e2, e3, fun z => by rw [z, hd] at e2; cases e2⟩) hk)
where kvmono {R R' : Int → V → Prop} (m : ∀ x v, R x v → R' x v) : ∀ {kvs : List (Key × V)} {es : List Int}, KvI R kvs es → KvI R' kvs es
  | [], [], _ => trivial
  | _ :: _, _ :: _, h => ⟨h.1, m _ _ h.2.1, kvmono m h.2.2⟩
  | [], _ :: _, h => h.elim
  | _ :: _, [], h => h.elim
end
end Rl
namespace Rl
open PySem PySem.Spec PyProof.Rows L2
/-! ## small ones that the shapes share (from TrnP2, TrnP2b, K33P3) -/
section
variable {K : PySem.W.Frag} {H : Hp} {Q : VK} {σ : L2.St} {S : List Int} {x : Int}
theorem R.lcFG {a : Addr} {ns : List Int} {j : Nat} {tt : TT} (p : Int → Bool) (h : SqL K H a (ns.map V.int)) (hl : ns.length < sizeLine) (hw : ∀ x, wipe ((wipe σ [j]).set j (some x)) [j] = wipe σ [j]) (hj : ∀ x, ((wipe σ [j]).set j (some x))[j]? = some (some x))
    (ht : ∀ x H', x ∈ ns → Same H H' → ∀ QB : Bool → Hp → Prop, (∀ H'', Same H' H'' → QB (p x) H'') → tt ((wipe σ [j]).set j (some (.int x))) H' QB)
    (q : ∀ D H', H D = none → Same H H' → H' D = some (.lst ((ns.filter p).map V.int)) → Q (.ref D) H') :
    (∃ b, V.ref a = .ref b ∧ (∃ xs, SqL K H b xs) ∧ ∀ D, H D = none → R.LcLoop (Itl K b) (L2.gName j) tt (tVar j) [j] σ D H Q) ∨ (∃ b, V.ref a = .ref b ∧ (∃ xs, SqT K H b xs) ∧ ∀ D, H D = none → R.LcLoop (Itt K b) (L2.gName j) tt (tVar j) [j] σ D H Q) := by
  refine .inl ⟨a, rfl, ⟨_, h⟩, fun D hD => ?_⟩
  refine R.lcI walk_list (fun i H' => Same H H' ∧ H' D = some (.lst (((ns.take i).filter p).map V.int))) ⟨same_upd hD, upd_same⟩ (fun i H' _ z => SqL.mono z.1 h) ?_ (fun H' z => q D H' hD z.1 (by
    have e := z.2
    rw [List.length_map, List.take_of_length_le (Nat.le_refl _)] at e
    exact e))
  rintro i x H1 H' hi ⟨z1, z2⟩ ⟨rfl, hx⟩
  rw [List.length_map] at hi
  rw [List.getElem?_map] at hx
  obtain ⟨y, hy, rfl⟩ := Option.map_eq_some_iff.mp hx
  refine ⟨hw _, ht y _ (List.mem_of_getElem? hy) z1 _ fun H2 s2 => ?_⟩
  rw [tk1 hy, List.filter_append]
  have z3 := s2 _ _ z2
  have lb : ((ns.take i).filter p).length ≤ i := Nat.le_trans (List.length_filter_le _ _) (List.length_take_le ..)
  cases hp : p y with
  | true =>
    refine iteT (R.var ⟨_, z3, by rw [List.length_map]; omega, Same.mut hD (z1.trans s2), ?_⟩ (hj _))
    rw [upd_same, List.filter_cons, hp, List.map_append]
    rfl
  | false =>
    refine iteF ⟨z1.trans s2, ?_⟩
    rw [List.filter_cons, hp]
    show _ = some (HO.lst ((_ ++ []).map V.int))
    rw [List.append_nil]
    exact z3
theorem find_take {P : Int → Bool} {i : Nat} (hx : S[i]? = some x) (hn : ∀ k ∈ S.take i, P k = false) (hp : P x = true) : S.find? P = some x := by
  obtain ⟨hi, hx⟩ := List.getElem?_eq_some_iff.mp hx
  have e : S = S.take i ++ x :: S.drop (i + 1) := by rw [← hx, ← List.drop_eq_getElem_cons hi, List.take_append_drop]
  generalize S.take i = A at e hn
  generalize S.drop (i + 1) = B at e
  rw [e, List.find?_append, List.find?_eq_none.mpr fun k hk => by rw [hn k hk]; exact Bool.false_ne_true]
  rw [Option.none_or, List.find?_cons, hp]
theorem R.din {σ : L2.St} {ty td : TE} (q : ty σ H fun y H1 => td σ H1 fun x H2 => ∃ a o, x = .ref a ∧ DGet H2 a y o ∧ Q (.bl o.isSome) H2) : tDIn ty td σ H Q := q
end
end Rl
namespace Rl
open PySem PySem.Spec PyProof.Rows L2
/-! ## turned_away -/
section
variable {K : PySem.W.Frag} {w : World} {vs : List V} {H0 H H' : Hp} {Q : VK} {E : XK} {d D l : Addr} {ks : List Int} {f g : Int → List Int}
theorem valV_idx : ∀ {kvs : List (Key × V)} {i : Nat} {k : Key} {v : V}, (kvs.map Prod.fst).Nodup → kvs[i]? = some (k, v) → valV kvs k = some v
  | [], _, _, _, _, h => nomatch h
  | p :: r, 0, k, v, _, h => by
    cases Option.some.inj h
    exact valV_pos rfl
  | p :: r, i + 1, k, v, nd, h => by
    rw [List.map_cons, List.nodup_cons] at nd
    have ih := valV_idx nd.2 (i := i) (by simpa using h)
    have hm : (k, v) ∈ r := List.mem_of_getElem? (i := i) (by simpa using h)
    rw [valV_neg fun z => nd.1 (List.mem_map.mpr ⟨_, hm, z.symm⟩)]
    exact ih
theorem GrN.grD (h : GrN H0 H D ks g) : GrD H D ks g := by
  obtain ⟨kvs, ad, h1, h2, h3, _⟩ := h.ex
  exact ⟨kvs, .inl h1, h2, fun k hk => ⟨ad k, (h3 k hk).1, (h3 k hk).2.1⟩⟩
theorem pure_turned_away {F : Prop} (_ : F) (h : sp_turned_away K w vs H Q E) : t_turned_away K w { nx := fun _ H' => Q .non H', rt := Q } (start N_turned_away vs) H := by
  obtain ⟨d, ks, f, rfl, hg, hw, hnd, q⟩ := h
  unfold t_turned_away
  obtain ⟨kvs, rd, hk, hv⟩ := id hg
  have rd0 : ∃ kvs, Rd H d (.dK kvs) := ⟨kvs, rd⟩
  have lk : kvs.length = ks.length := by
    have := congrArg List.length hk
    rw [List.length_map, List.length_map] at this
    exact this
  have knd : (kvs.map Prod.fst).Nodup := by
    rw [hk]
    exact inl_nodup hw.nd
  have kat : ∀ {i : Nat} {k : Key} {v : V}, kvs[i]? = some (k, v) → ∃ hi : i < ks.length, k = Sum.inl ks[i] := fun {i k v} h => by
    have hi : i < kvs.length := (List.getElem?_eq_some_iff.mp h).1
    have e1 : (kvs.map Prod.fst)[i]? = some k := by rw [List.getElem?_map, h]; rfl
    rw [hk, List.getElem?_map, List.getElem?_eq_getElem (by omega)] at e1
    exact ⟨by omega, (Option.some.inj e1).symm⟩
  have tk : ∀ {i : Nat} (hi : i < ks.length), ks.take (i + 1) = ks.take i ++ [ks[i]] := fun {i} hi => by
    rw [List.take_add_one, List.getElem?_eq_getElem hi]
    rfl
  have nk : ∀ {i : Nat} (hi : i < ks.length), ks[i] ∉ ks.take i := fun {i} hi hm => by
    have nd := hw.nd
    rw [← List.take_append_drop i ks, List.nodup_append] at nd
    exact nd.2.2 _ hm _ (List.mem_iff_getElem?.mpr ⟨0, by rw [List.getElem?_drop, Nat.add_zero, List.getElem?_eq_getElem hi]⟩) rfl
  have kl := hw.kl
  -- a list for each row
  refine R.seq (R.asg (R.dc (R.keysF (R.var (R.keysAt rd fun o H1 e1 s1 D hD => ?_)))))
  have sd1 : SmW d H H1 := SmW.frz rd e1 s1
  have nDd : D ≠ d := fun z => by rw [z, e1] at hD; cases hD
  have hD0 : H D = none := sd1.free nDd hD
  refine R.dcI walk_keys (fun i H' => SmW d H H' ∧ H' d = some (.frz o (.dK kvs)) ∧ GrN H H' D (ks.take i) fun _ => []) ⟨sd1.new hD nDd, by rw [upd_ne nDd.symm]; exact e1, ⟨⟨[], fun _ => D, upd_same, rfl, (fun _ h => nomatch h), (fun _ h => nomatch h)⟩, hD0⟩⟩ (fun i H' _ z => z.2.1) ?_ ?_
  · rintro i x H2 H3 hi ⟨sd2, e2, G2⟩ ⟨rfl, k, v, hkv, rfl⟩
    obtain ⟨hi', rfl⟩ := kat hkv
    obtain ⟨kv, ad, gD, hk2, _⟩ := id G2.ex
    refine ⟨rfl, R.yes (iteT (R.var (R.lst (R.nil ⟨by k_caughtN0, fun l hl => ?_⟩))))⟩
    have nld : l ≠ d := fun z => by rw [z, e2] at hl; cases hl
    have nlD : l ≠ D := fun z => by rw [z, gD] at hl; cases hl
    refine ⟨kv, Sum.inl ks[i], rfl, by rw [upd_ne nlD.symm]; exact gD, ?_, (sd2.new hl nld).mut hD0 nDd, by rw [upd_ne nDd.symm, upd_ne nld.symm]; exact e2, ?_⟩
    · have := congrArg List.length hk2
      rw [List.length_map, List.length_map, List.length_take] at this
      exact Nat.lt_of_le_of_lt (m := 1300) (by omega) (by decide)
    · rw [tk hi']
      exact G2.put gD (nk hi') hl (sd2.free nld hl)
  rintro H2 ⟨sd2, e2, G2⟩
  rw [lk, List.take_length] at G2
  clear sd1 e1 s1 hD
  -- the ways, turned
  refine R.gName (R.seq (R.for' (R.itemsF (R.var (R.itemsAt (.inr ⟨o, e2⟩) fun o3 H3 e3 s3 => ?_)))))
  have sd23 : SmW d H2 H3 := SmW.frz (.inr ⟨o, e2⟩) e3 s3
  have sd3 := sd2.trans sd23
  have G3 : GrN H H3 D ks fun _ => [] := G2.smd sd23 rd0
  let P : Int → Int → Bool := fun k a => decide (k ∈ f a)
  refine R.loop walk_items (fun i σ H' => ∃ v2 v3 v4, σ = [some (.ref d), some (.ref D), v2, v3, v4] ∧ SmW d H H' ∧ H' d = some (.frz o3 (.dK kvs)) ∧ GrN H H' D ks fun k => (ks.take i).filter (P k)) ⟨_, _, _, rfl, sd3, e3, G3.congr fun _ _ => rfl⟩ (fun i σ H' _ ⟨_, _, _, _, _, z, _⟩ => z) ?_ ?_
  · clear sd2 e2 G2 sd23 sd3 G3 e3 s3
    rintro i x σ H4 H5 hi ⟨v2, v3, v4, rfl, sd4, e4, G4⟩ ⟨T, x1, y1, rfl, hT, rfl, hx, hy⟩
    obtain ⟨kv, hkv, rfl⟩ := Option.map_eq_some_iff.mp hx
    obtain ⟨k, v⟩ := kv
    have hy : Option.map Prod.snd kvs[i]? = some y1 := hy
    rw [hkv] at hy
    cases Option.some.inj hy
    obtain ⟨hi', rfl⟩ := kat hkv
    have km : ks[i] ∈ ks := List.getElem_mem hi'
    obtain ⟨l, hl1, hl2⟩ := hv _ km
    rw [valV_idx knd hkv] at hl1
    cases Option.some.inj hl1
    have s5 := same_upd (o := .tup [kV (Sum.inl ks[i]), .ref l]) hT
    have nTd : T ≠ d := fun z => by rw [z, e4] at hT; cases hT
    have sd5 := sd4.new (o := .tup [kV (Sum.inl ks[i]), .ref l]) hT nTd
    have e5 := s5 _ _ e4
    have G5 := G4.same s5
    have gT5 : (upd H4 T (.tup [kV (Sum.inl ks[i]), .ref l])) T = some _ := upd_same
    generalize upd H4 T (.tup [kV (Sum.inl ks[i]), .ref l]) = H6 at s5 sd5 e5 G5 gT5 ⊢
    refine R.gPair gT5 ?_
    have nld : l ≠ d := rd_no rd hl2
    refine R.for' (R.seqIter (R.var ?_))
    refine R.forLI (ns := f ks[i]) (fun j σ H' => ∃ v4, σ = [some (.ref d), some (.ref D), some (.int ks[i]), some (.ref l), v4] ∧ SmW d H H' ∧ H' d = some (.frz o3 (.dK kvs)) ∧ GrN H H' D ks fun k => (ks.take i).filter (P k) ++ if k ∈ (f ks[i]).take j then [ks[i]] else []) (SqL.of (sd5.off _ _ nld hl2)) ⟨_, rfl, sd5, e5, G5.congr fun k _ => ?_⟩ (fun j σ H' _ ⟨_, _, z, _⟩ => SqL.of (z.off _ _ nld hl2)) ?_ ?_
    · rw [List.take_zero, if_neg List.not_mem_nil, List.append_nil]
    · clear sd5 e5 G5 gT5 s5 sd4 e4 G4 hT
      rintro j b σ H7 hb bf hj ⟨v4, rfl, sd7, e7, G7⟩
      have bk : b ∈ ks := hw.clo _ km b bf
      have nb : b ∉ (f ks[i]).take j := fun z => by
        have nd := hnd _ km
        obtain ⟨hj2, rfl⟩ := List.getElem?_eq_some_iff.mp hb
        rw [← List.take_append_drop j (f ks[i]), List.nodup_append] at nd
        exact nd.2.2 _ z _ (List.mem_iff_getElem?.mpr ⟨0, by rw [List.getElem?_drop, Nat.add_zero, List.getElem?_eq_getElem hj2]⟩) rfl
      have cb : (ks.take i).filter (P b) ++ (if b ∈ (f ks[i]).take j then [ks[i]] else []) = (ks.take i).filter (P b) := by
        rw [if_neg nb, List.append_nil]
      have bound : ((ks.take i).filter (P b)).length < sizeLine := Nat.lt_of_le_of_lt (Nat.le_trans (List.length_filter_le _ _) (Nat.le_trans (List.length_take_le' ..) kl)) (by decide)
      obtain ⟨a, dg, ga, ha0, G8⟩ := G7.app (k := b) (x := ks[i]) bk cb
      have nad : a ≠ d := rd_ne rd ha0
      refine R.gName (R.drop (R.bm (R.dget (R.var (R.var ⟨D, _, rfl, dg, R.tyL ga (R.cons (R.var (R.nil (R.appendI ga bound ?_))))⟩)))))
      refine ⟨_, rfl, sd7.mut ha0 nad, by rw [upd_ne nad.symm]; exact e7, G8.congr fun k hk => ?_⟩
      rw [tk1 hb]
      by_cases z : k = b
      · subst z
        rw [if_pos rfl, if_pos (List.mem_append_right _ (List.mem_singleton.mpr rfl))]
      · have e1 : (k ∈ (f ks[i]).take j ++ [b]) ↔ k ∈ (f ks[i]).take j := by
          rw [List.mem_append, List.mem_singleton]
          exact ⟨fun y => y.elim id fun y => absurd y z, .inl⟩
        simp only [e1, if_neg z]
    · rintro σ H7 ⟨v4, rfl, sd7, e7, G7⟩
      refine ⟨_, _, _, rfl, sd7, e7, G7.congr fun k hk => ?_⟩
      rw [tk hi', List.filter_append, List.take_length]
      congr 1
      by_cases z : k ∈ f ks[i]
      · rw [if_pos z, List.filter_cons, if_pos (show P k ks[i] = true from decide_eq_true z)]
        rfl
      · rw [if_neg z, List.filter_cons, if_neg (fun y : P k ks[i] = true => z (of_decide_eq_true y))]
        rfl
  · rintro σ H4 ⟨v2, v3, v4, rfl, sd4, e4, G4⟩
    rw [lk, List.take_length] at G4
    refine R.ret (R.var (q D H4 (fun k => ks.filter (P k)) sd4 hD0 nDd G4.grD ⟨hw.nd, hw.few, fun k _ x hx => (List.mem_filter.mp hx).1, fun k _ => Nat.le_trans (List.length_filter_le _ _) kl⟩ fun x hx y => ?_))
    rw [List.mem_filter]
    show _ ∧ decide (x ∈ f y) = true ↔ _
    rw [decide_eq_true_iff]
end
end Rl
namespace Rl
open PySem PySem.Spec PyProof.Rows L2
/-! ## rings -/
theorem dkv_put_old {ks : List Int} {k : Int} (h : k ∈ ks) : putK (dkv ks) (Sum.inl k) (V.bl true) = dkv ks := by
  unfold putK
  rw [if_pos]
  · refine (List.map_congr_left fun kv hkv => ?_).trans (List.map_id _)
    obtain ⟨j, hj, rfl⟩ := List.mem_map.mp hkv
    dsimp only
    split <;> rfl
  · rw [valV_any, dkv_get]
    exact decide_eq_true h
/-- numbers that are not there are put behind -/
def mrg (L fs : List Int) : List Int := fs.foldl (fun acc x => if x ∈ acc then acc else acc ++ [x]) L
theorem merge_mrg : ∀ (fs L : List Int), mergeK (dkv L) (dkv fs) = dkv (mrg L fs)
  | [], L => rfl
  | x :: fs, L => by
    show mergeK (putK (dkv L) (Sum.inl x) (V.bl true)) (dkv fs) = dkv (mrg (if x ∈ L then L else L ++ [x]) fs)
    by_cases h : x ∈ L
    · rw [dkv_put_old h, if_pos h]
      exact merge_mrg fs L
    · rw [dkv_put h, if_neg h]
      exact merge_mrg fs _
theorem mem_mrg : ∀ (fs L : List Int) (k : Int), k ∈ mrg L fs ↔ k ∈ L ∨ k ∈ fs
  | [], L, k => ⟨.inl, fun h => h.elim id fun z => nomatch z⟩
  | x :: fs, L, k => by
    show k ∈ mrg (if x ∈ L then L else L ++ [x]) fs ↔ _
    rw [mem_mrg fs, List.mem_cons]
    by_cases h : x ∈ L
    · rw [if_pos h]
      constructor
      · exact fun z => z.imp_right .inr
      · rintro (z | rfl | z)
        · exact .inl z
        · exact .inl h
        · exact .inr z
    · rw [if_neg h, List.mem_append, List.mem_singleton, or_assoc]
theorem nodup_mrg : ∀ (fs L : List Int), L.Nodup → (mrg L fs).Nodup
  | [], L, h => h
  | x :: fs, L, h => by
    show (mrg (if x ∈ L then L else L ++ [x]) fs).Nodup
    refine nodup_mrg fs _ ?_
    by_cases z : x ∈ L
    · rw [if_pos z]
      exact h
    · rw [if_neg z]
      refine List.nodup_append.mpr ⟨h, by simp, fun u hu v hv e => ?_⟩
      rw [List.mem_singleton.mp hv] at e
      exact z (e ▸ hu)
/-- a dict of dicts of its own: heads, and what is found for each -/
structure FD (Hb H : Hp) (pf : Addr) (P : Int → Prop) (M : Int → Int → Prop) (kvs : List (Key × V)) (hs : List Int) (rd : Int → Addr) (Ls : Int → List Int) : Prop where
  g : H pf = some (.dK kvs)
  ks : kvs.map Prod.fst = hs.map Sum.inl
  nd : hs.Nodup
  hP : ∀ h, h ∈ hs ↔ P h
  at_ : ∀ h ∈ hs, valV kvs (Sum.inl h) = some (.ref (rd h)) ∧ H (rd h) = some (.dK (dkv (Ls h))) ∧ (Ls h).Nodup ∧ Hb (rd h) = none ∧ rd h ≠ pf ∧ ∀ k, k ∈ Ls h ↔ M h k
  inj : ∀ i ∈ hs, ∀ j ∈ hs, rd i = rd j → i = j
section
variable {K : PySem.W.Frag} {w : World} {vs : List V} {Hb H H' : Hp} {Q : VK} {E : XK} {pf z : Addr} {P P' : Int → Prop} {M M' : Int → Int → Prop} {kvs : List (Key × V)} {hs fs : List Int} {rd : Int → Addr} {Ls : Int → List Int} {h a x : Int}
theorem FD.same (F : FD Hb H pf P M kvs hs rd Ls) (s : Same H H') : FD Hb H' pf P M kvs hs rd Ls := ⟨s _ _ F.g, F.ks, F.nd, F.hP, fun h hh => by
  obtain ⟨a, b, c, d, e, f⟩ := F.at_ h hh
  exact ⟨a, s _ _ b, c, d, e, f⟩, F.inj⟩
theorem FD.congr (F : FD Hb H pf P M kvs hs rd Ls) (p : ∀ h, P h ↔ P' h) (m : ∀ h k, P' h → (M h k ↔ M' h k)) : FD Hb H pf P' M' kvs hs rd Ls := ⟨F.g, F.ks, F.nd, fun h => (F.hP h).trans (p h), fun h hh => by
  obtain ⟨a, b, c, d, e, f⟩ := F.at_ h hh
  exact ⟨a, b, c, d, e, fun k => (f k).trans (m h k ((p h).mp ((F.hP h).mp hh)))⟩, F.inj⟩
theorem FD.len (F : FD Hb H pf P M kvs hs rd Ls) : kvs.length = hs.length := by
  have := congrArg List.length F.ks
  rw [List.length_map, List.length_map] at this
  exact this
/-- a head more -/
theorem FD.new (F : FD Hb H pf P M kvs hs rd Ls) (hn : x ∉ hs) (gz : H z = some (.dK (dkv [x]))) (zb : Hb z = none) (zn : z ≠ pf) (zr : ∀ h ∈ hs, rd h ≠ z) : FD Hb (upd H pf (.dK (putK kvs (Sum.inl x) (.ref z)))) pf (fun h => P h ∨ h = x) (fun h k => (P h ∧ M h k) ∨ (h = x ∧ k = x)) (putK kvs (Sum.inl x) (.ref z)) (hs ++ [x]) (fun h => if h = x then z else rd h) (fun h => if h = x then [x] else Ls h) := by
  have hnP : ¬ P x := fun y => hn ((F.hP x).mpr y)
  refine ⟨upd_same, ?_, ?_, fun h => ?_, fun h hh => ?_, fun i hi j hj e => ?_⟩
  · rw [putK_new _ (key_none F.ks hn), List.map_append, F.ks, List.map_append]
    rfl
  · refine List.nodup_append.mpr ⟨F.nd, by simp, fun u hu v hv e => ?_⟩
    rw [List.mem_singleton.mp hv] at e
    exact hn (e ▸ hu)
  · rw [List.mem_append, List.mem_singleton, F.hP]
  · by_cases y : h = x
    · subst y
      rw [if_pos rfl, if_pos rfl]
      refine ⟨by rw [valV_put, if_pos rfl], upd_mut zn gz, by simp, zb, zn, fun k => ?_⟩
      rw [List.mem_singleton]
      exact ⟨fun e => .inr ⟨rfl, e⟩, fun e => e.elim (fun e => absurd e.1 hnP) fun e => e.2⟩
    · rw [if_neg y, if_neg y]
      have hm : h ∈ hs := (List.mem_append.mp hh).elim id fun e => absurd (List.mem_singleton.mp e) y
      obtain ⟨a, b, c, d, e, f⟩ := F.at_ h hm
      refine ⟨by rw [valV_put, if_neg (fun u => y (Sum.inl.inj u))]; exact a, upd_mut e b, c, d, e, fun k => ?_⟩
      rw [f k]
      exact ⟨fun u => .inl ⟨(F.hP h).mp hm, u⟩, fun u => u.elim (fun u => u.2) fun u => absurd u.1 y⟩
  · have mm : ∀ {j}, j ∈ hs ++ [x] → j ≠ x → j ∈ hs := fun hj y => (List.mem_append.mp hj).elim id fun e => absurd (List.mem_singleton.mp e) y
    by_cases zi : i = x <;> by_cases zj : j = x
    · rw [zi, zj]
    · rw [if_pos zi, if_neg zj] at e
      exact absurd e.symm (zr j (mm hj zj))
    · rw [if_neg zi, if_pos zj] at e
      exact absurd e (zr i (mm hi zi))
    · rw [if_neg zi, if_neg zj] at e
      exact F.inj i (mm hi zi) j (mm hj zj) e
/-- what a head has grows -/
theorem FD.grow (F : FD Hb H pf P M kvs hs rd Ls) (hx : x ∈ hs) : FD Hb (upd H (rd x) (.dK (dkv (mrg (Ls x) fs)))) pf P (fun h k => M h k ∨ (h = x ∧ k ∈ fs)) kvs hs rd (fun h => if h = x then mrg (Ls x) fs else Ls h) := by
  obtain ⟨a0, b0, c0, d0, e0, f0⟩ := F.at_ x hx
  refine ⟨upd_mut e0.symm F.g, F.ks, F.nd, F.hP, fun h hh => ?_, F.inj⟩
  obtain ⟨a, b, c, d, e, f⟩ := F.at_ h hh
  by_cases y : h = x
  · subst y
    rw [if_pos rfl]
    refine ⟨a, upd_same, nodup_mrg _ _ c, d, e, fun k => ?_⟩
    rw [mem_mrg, f k]
    exact ⟨fun u => u.imp_right fun u => ⟨rfl, u⟩, fun u => u.imp_right fun u => u.2⟩
  · rw [if_neg y]
    refine ⟨a, upd_mut (fun u => y (F.inj h hh x hx u)) b, c, d, e, fun k => ?_⟩
    rw [f k]
    exact ⟨.inl, fun u => u.elim id fun u => absurd u.1 y⟩
theorem ct_bk {f g : Int → List Int} {ks : List Int} {h a k : Int} (hg : ∀ x ∈ ks, ∀ y, y ∈ g x ↔ y ∈ ks ∧ x ∈ f y) (ha : a ∈ ks) : CT g (some h) a k ↔ BkR f ks h a k := by
  constructor
  · rintro ⟨n, r⟩
    have key : k ∈ ks ∧ Rch (fun x y => (y ∈ ks ∧ x ∈ f y) ∧ h ≠ y) a k := by
      induction r with
      | here => exact ⟨ha, .here⟩
      | on _ m ih =>
        have m1 := (hg _ ih.1 _).mp m.1
        exact ⟨m1.1, ih.2.on ⟨m1, fun e => m.2 (congrArg some e)⟩⟩
    exact ⟨fun e => n (congrArg some e), key.2⟩
  · rintro ⟨n, r⟩
    have key : k ∈ ks ∧ Rch (fun x y => y ∈ g x ∧ some h ≠ some y) a k := by
      induction r with
      | here => exact ⟨ha, .here⟩
      | on _ m ih => exact ⟨m.1.1, ih.2.on ⟨(hg _ ih.1 _).mpr m.1, fun e => m.2 (Option.some.inj e)⟩⟩
    exact ⟨fun e => n (Option.some.inj e), key.2⟩
open Classical in
theorem pure_rings {F : Prop} (_ : F) (h : sp_rings K w vs H Q E) : t_rings K w { nx := fun _ H' => Q .non H', rt := Q } (start N_rings vs) H := by
  obtain ⟨c, ns, e, rfl, hc, hb, hl, he, q⟩ := h
  unfold t_rings
  refine R.seq (R.asg (R.call (R.cons (R.var (R.cons (R.var (R.nil ⟨c, ns, e, rfl, hc, hb, hl, he, fun d H1 ks s1 nd g1 W => R.gName ?_⟩)))))))
  have hw := W.w
  refine R.seq (R.asg (R.call (R.cons (R.var (R.nil ⟨d, ks, goL ns, rfl, g1, hw, fun k _ => goL_nodup ns k, fun pb H2 g sd2 npb nbd gb wb hgb => R.gName ?_⟩)))))
  have s2 := same_smw s1 nd sd2
  have g2 := g1.smd sd2
  refine R.seq (R.asg (fun pf hpf => R.gName ?_))
  have t3 := same_upd (o := .dK []) hpf
  have gf3 : (upd H2 pf (.dK [])) pf = some (.dK []) := upd_same
  have s3 := s2.trans t3
  have hpf0 : H pf = none := s2.free hpf
  have g3 := g2.same t3
  have gb3 := gb.same t3
  have nfd : pf ≠ d := by
    obtain ⟨kv, r, _⟩ := g2
    exact rd_ne r hpf
  generalize upd H2 pf (.dK []) = H3 at t3 gf3 s3 g3 gb3 ⊢
  refine R.seq (R.for' (R.seqIter (R.call (R.cons (R.var (R.cons (R.var (R.nil ⟨d, e, ks, goL ns, rfl, g3, hw, (W.all e).mpr .here, fun p H4 xs S sd4 hS hs4 np npd gp hT => ?_⟩))))))))
  have s4 := same_smw s3 (by exact nd) sd4
  have gf4 := sd4.off _ _ nfd gf3
  have gb4 : GrD H4 pb ks g := by
    obtain ⟨kv, r, k1, k2⟩ := gb3
    have off : ∀ {b : Addr} {o : HO}, H3 b = some o → b ≠ d → H4 b = some o := fun h n => sd4.off _ _ n h
    refine ⟨kv, ?_, k1, fun k hk => ?_⟩
    · rcases r with r | ⟨ob, r⟩
      · exact .inl (off r nbd)
      · exact .inr ⟨ob, off r nbd⟩
    · obtain ⟨l, h1, h2⟩ := k2 k hk
      obtain ⟨kv3, r3, _⟩ := g3
      exact ⟨l, h1, off h2 (rd_no r3 h2)⟩
  have pt : PtS ns e S := ⟨hs4, fun k => hS.mem_iff.trans (W.all k)⟩
  have mk : ∀ k ∈ S, k ∈ ks := fun k h => hS.mem_iff.mp h
  have few : ∀ {ps : List (Int × Int)}, (∀ ao ∈ ps, ao ∈ trnL (goL ns) e S) → ∀ h, (∃ a, (a, h) ∈ ps) → FewG h := fun hp h ⟨a, ha⟩ => by
    obtain ⟨h1, h2, _⟩ := mem_trnL.mp (hp _ ha)
    exact hw.few h (hw.clo a (mk a h1) h h2)
  have fpf : ∀ b, b ≠ pf → H4 b = none → H b = none := fun b _ z => s4.free z
  refine R.forL (xs := xs) (fun i σ H' => ∃ v5 v6 v7 kvs hs rd Ls, σ = [some c, some (.int e), some (.ref d), some (.ref pb), some (.ref pf), v5, v6, v7] ∧ Fx pf H4 H' ∧ FD H4 H' pf (fun h => ∃ a, (a, h) ∈ (trnL (goL ns) e S).take i) (fun h k => k = h ∨ ∃ a, (a, h) ∈ (trnL (goL ns) e S).take i ∧ CT g (some h) a k) kvs hs rd Ls)
    (SqL.of gp) ⟨_, _, _, [], [], fun _ => pf, fun _ => [], rfl, Same.refl _, gf4, rfl, List.nodup_nil, (fun h => ⟨(fun z => nomatch z), fun ⟨a, z⟩ => nomatch z⟩), (fun _ z => nomatch z), fun _ z => nomatch z⟩ (fun i σ H' _ ⟨_, _, _, _, _, _, _, _, z, _⟩ => SqL.of (z.at (fun y => by rw [y, gf4] at gp; cases gp) gp)) ?_ ?_
  · rintro i x σ H5 hx hi ⟨v5, v6, v7, kvs, hs, rd, Ls, rfl, f5, F5⟩
    obtain ⟨t, ⟨a, hd⟩, h1, rfl, gt, _⟩ := hT.2 i x hx
    have gt5 := f5.at (fun y => by rw [y, gf4] at gt; cases gt) gt
    refine R.gPair gt5 ?_
    have tkn : (trnL (goL ns) e S).take (i + 1) = (trnL (goL ns) e S).take i ++ [(a, hd)] := by
      rw [List.take_add_one, h1]
      rfl
    have mt : (a, hd) ∈ trnL (goL ns) e S := List.mem_of_getElem? h1
    obtain ⟨aS, hfa, _⟩ := mem_trnL.mp mt
    have ak := mk a aS
    have fewh : ∀ h ∈ hs, FewG h := fun h hh => few (ps := (trnL (goL ns) e S).take i) (fun ao z => List.mem_of_mem_take z) h ((F5.hP h).mp hh)
    have lh : kvs.length ≤ 1300 := by
      rw [F5.len]
      exact len_below F5.nd fewh
    -- the ring's dict
    refine R.seq (R.joinS (fun σ H' => ∃ kvs hs rd Ls, hd ∈ hs ∧ σ = [some c, some (.int e), some (.ref d), some (.ref pb), some (.ref pf), some (.int a), some (.int hd), some (.ref (rd hd))] ∧ Fx pf H4 H' ∧ FD H4 H' pf (fun h => ∃ a, (a, h) ∈ (trnL (goL ns) e S).take (i + 1)) (fun h k => k = h ∨ ∃ a, (a, h) ∈ (trnL (goL ns) e S).take i ∧ CT g (some h) a k) kvs hs rd Ls) ?_ fun N key => ?_)
    rotate_left
    · refine R.asg (R.var ⟨pf, rfl, .inl ⟨kvs, .inl F5.g⟩, R.var (R.disp1 (fun H' QE q' => R.var q') fun z hz => ?_)⟩)
      have s6 : Same H5 (upd (upd H5 z (.dK [])) z (.dK (dkv [hd]))) := Same.mut hz (same_upd hz)
      have gz6 : (upd (upd H5 z (.dK [])) z (.dK (dkv [hd]))) z = some _ := upd_same
      have nzf : z ≠ pf := fun y => by rw [y, F5.g] at hz; cases hz
      have F6 := F5.same s6
      have f6 : Fx pf H4 _ := f5.trans (Same.but s6)
      have zr : ∀ h ∈ hs, rd h ≠ z := fun h hh y => by
        have := (F5.at_ h hh).2.1
        rw [y, hz] at this
        cases this
      have zb : H4 z = none := by
        cases y : H4 z with
        | none => rfl
        | some o =>
          have := f5.at nzf y
          rw [hz] at this
          cases this
      generalize upd (upd H5 z (.dK [])) z (.dK (dkv [hd])) = H6 at s6 gz6 F6 f6 ⊢
      refine ⟨kvs, Sum.inl hd, F6.g, rfl, Nat.lt_of_le_of_lt lh (by decide), fun v hv => ?_, fun hv => ?_⟩
      · have hm : hd ∈ hs := by
          refine Classical.byContradiction fun y => ?_
          rw [key_none F5.ks y] at hv
          cases hv
        have := (F6.at_ hd hm).1
        rw [hv] at this
        cases this
        refine R.gName (key _ _ ⟨kvs, hs, rd, Ls, hm, rfl, f6, F6.congr (fun h => ?_) fun h k _ => Iff.rfl⟩)
        rw [tkn]
        constructor
        · exact fun ⟨b, z⟩ => ⟨b, List.mem_append_left _ z⟩
        · rintro ⟨b, z⟩
          rcases List.mem_append.mp z with z | z
          · exact ⟨b, z⟩
          · cases List.mem_singleton.mp z
            exact (F5.hP hd).mp hm
      · have hm : hd ∉ hs := fun y => by
          have := (F6.at_ hd y).1
          rw [hv] at this
          cases this
        have F7 := F6.new hm gz6 zb nzf zr
        have hnP : ¬ ∃ a, (a, hd) ∈ (trnL (goL ns) e S).take i := fun y => hm ((F5.hP hd).mpr y)
        refine R.gName (key _ _ ⟨_, _, _, _, List.mem_append_right _ (List.mem_singleton.mpr rfl), ?_, sm_bmut f6, F7.congr (fun h => ?_) fun h k _ => ?_⟩)
        · dsimp only
          rw [if_pos rfl]
          rfl
        · rw [tkn]
          constructor
          · rintro (⟨b, z⟩ | rfl)
            · exact ⟨b, List.mem_append_left _ z⟩
            · exact ⟨a, List.mem_append_right _ (List.mem_singleton.mpr rfl)⟩
          · rintro ⟨b, z⟩
            rcases List.mem_append.mp z with z | z
            · exact .inl ⟨b, z⟩
            · cases List.mem_singleton.mp z
              exact .inr rfl
        · by_cases y : h = hd
          · subst y
            exact ⟨fun u => u.elim (fun u => absurd u.1 hnP) fun u => .inl u.2, fun u => u.elim (fun u => .inr ⟨rfl, u⟩) fun ⟨b, u, _⟩ => absurd ⟨b, u⟩ hnP⟩
          · rename_i hp
            refine ⟨fun u => u.elim (fun u => u.2) fun u => absurd u.1 y, fun u => .inl ⟨?_, u⟩⟩
            obtain ⟨b, z⟩ := hp
            rw [tkn] at z
            rcases List.mem_append.mp z with z | z
            · exact ⟨b, z⟩
            · cases List.mem_singleton.mp z
              exact absurd rfl y
    clear F5 f5 fewh lh gt5
    rintro σ H6 ⟨kvs, hs, rd, Ls, hm, rfl, f6, F6⟩
    obtain ⟨a0, b0, c0, d0, e0, f0⟩ := F6.at_ hd hm
    have gb6 : GrD H6 pb ks g := by
      obtain ⟨kv, r, k1, k2⟩ := gb4
      have nbf : pb ≠ pf := fun y => by
        rcases gb with ⟨kv, r, _⟩
        rw [y] at r
        rcases r with r | ⟨ob, r⟩ <;> (rw [hpf] at r; cases r)
      refine ⟨kv, ?_, k1, fun k hk => ?_⟩
      · rcases r with r | ⟨ob, r⟩
        · exact .inl (f6.at nbf r)
        · exact .inr ⟨ob, f6.at nbf r⟩
      · obtain ⟨l, h1, h2⟩ := k2 k hk
        exact ⟨l, h1, f6.at (fun y => by rw [y, gf4] at h2; cases h2) h2⟩
    refine R.drop (R.bm (R.var (R.tyD b0 (R.cons (R.call (R.cons (R.var (R.cons (R.var (R.cons (R.var (R.nil ⟨pb, a, some hd, ks, g, rfl, gb6, wb, ak, fun pc H7 fs s7 npc gpc ndf hfs => R.nil ?_⟩))))))))))))
    have nrc : rd hd ≠ pc := fun y => by rw [y, npc] at b0; cases b0
    have F7 := F6.same s7
    have few7 : ∀ k ∈ Ls hd, FewG k := fun k hk => by
      rcases (f0 k).mp hk with rfl | ⟨b, hb, hct⟩
      · exact hw.few _ (hw.clo a ak _ hfa)
      · obtain ⟨bS, _, _⟩ := mem_trnL.mp (List.mem_of_mem_take hb)
        exact hw.few k (mk k (hS.mem_iff.mpr (bk_in (f := goL ns) ((ct_bk hgb (mk b bS)).mp hct) (mk b bS))))
    have few8 : ∀ k ∈ fs, FewG k := fun k hk => hw.few k (bk_in (f := goL ns) ((ct_bk hgb ak).mp ((hfs k).mp hk)) ak)
    refine R.update nrc (s7 _ _ b0) gpc ?_ ?_
    · rw [dkv_len, dkv_len, sizeLine_eq]
      have := len_below c0 few7
      have := len_below ndf few8
      omega
    rw [merge_mrg]
    refine ⟨_, _, _, kvs, hs, rd, _, rfl, Fx.mutN d0 (f6.trans (Same.but s7)), (F7.grow hm (fs := fs)).congr (fun _ => Iff.rfl) fun h k _ => ?_⟩
    rw [tkn]
    constructor
    · rintro ((rfl | ⟨b, z, y⟩) | ⟨rfl, z⟩)
      · exact .inl rfl
      · exact .inr ⟨b, List.mem_append_left _ z, y⟩
      · exact .inr ⟨a, List.mem_append_right _ (List.mem_singleton.mpr rfl), (hfs k).mp z⟩
    · rintro (rfl | ⟨b, z, y⟩)
      · exact .inl (.inl rfl)
      · rcases List.mem_append.mp z with z | z
        · exact .inl (.inr ⟨b, z, y⟩)
        · cases List.mem_singleton.mp z
          exact .inr ⟨rfl, (hfs k).mpr y⟩
  rintro σ H5 ⟨v5, v6, v7, kvs, hs, rd, Ls, rfl, f5, F5⟩
  rw [hT.1, List.take_length] at F5
  have s5 : Same H H5 := fun b o z => f5.at (fun y => by rw [y, hpf0] at z; cases z) (s4 b o z)
  have hiff : ∀ h, h ∈ hs ↔ IsHead (goL ns) e S h := fun h => (F5.hP h).trans ⟨fun ⟨a, z⟩ => ⟨a, mem_trnL.mp z⟩, fun ⟨a, z⟩ => ⟨a, mem_trnL.mpr z⟩⟩
  have riff : ∀ h ∈ hs, ∀ k, k ∈ Ls h ↔ InRing (goL ns) e S h k := fun h hh k => ((F5.at_ h hh).2.2.2.2.2 k).trans (or_congr Iff.rfl ⟨fun ⟨a, z, y⟩ => by
      have m := mem_trnL.mp z
      exact ⟨a, m, (bk_congr fun x => hS.mem_iff).mpr ((ct_bk hgb (mk a m.1)).mp y)⟩, fun ⟨a, m, y⟩ => ⟨a, mem_trnL.mpr m, (ct_bk hgb (mk a m.1)).mpr ((bk_congr fun x => hS.mem_iff).mp y)⟩⟩)
  clear f5 gf4 gb4 gp hT sd4 g3 gb3 gf3 t3 gb g2 g1 sd2
  -- what is told
  refine R.ret (R.lc (R.seqIter (R.cb (R.cons (R.var (R.nil ⟨pf, kvs, hs, rfl, .inl F5.g, F5.ks, fun HS l hp5 hs5 nl => .inl ⟨l, rfl, ⟨_, SqL.of upd_same⟩, fun D hD => ?_⟩⟩))))))
  obtain rfl : HS = rgH (goL ns) e S := sorted_uniq (sorted_strict hp5 hs5 F5.nd) (rgH_lt hs4) fun k => hp5.mem_iff.trans ((hiff k).trans (mem_rgH hw hS).symm)
  have t6 := same_upd (o := .lst ((rgH (goL ns) e S).map V.int)) nl
  have F6 := F5.same t6
  have s6 := s5.trans t6
  have gl6 : (upd H5 l (.lst ((rgH (goL ns) e S).map V.int))) l = some (.lst ((rgH (goL ns) e S).map V.int)) := upd_same
  generalize upd H5 l (.lst ((rgH (goL ns) e S).map V.int)) = H6 at t6 F6 s6 gl6 hD ⊢
  have lH : (rgH (goL ns) e S).length ≤ 1300 := by
    rw [← hp5.length_eq.symm]
    exact len_below F5.nd fun h hh => hw.few h (mk h (head_in hw hS ((hiff h).mp hh)))
  refine R.lcI walk_list (fun i H' => Same H6 H' ∧ ∃ xs, H' D = some (.lst xs) ∧ xs.length = i ∧ ∀ (j : Nat) (x : V), xs[j]? = some x → ∃ (q l : Addr) (k : Int), (rgH (goL ns) e S)[j]? = some k ∧ x = .ref q ∧ H' q = some (.tup [.int k, .ref l]) ∧ H6 q = none ∧ H' l = some (.lst ((rgL (goL ns) e S k).map V.int)) ∧ H6 l = none ∧ l ≠ D)
    ⟨same_upd hD, [], upd_same, rfl, fun j x hj => nomatch hj⟩ (fun i H' _ z => SqL.of (z.1 _ _ gl6)) ?_ ?_
  · rintro i x H7 H8 hi ⟨s7, xs, gD, lx, hx7⟩ ⟨rfl, hx⟩
    rw [List.length_map] at hi
    rw [List.getElem?_map] at hx
    obtain ⟨hd, hhd, rfl⟩ := Option.map_eq_some_iff.mp hx
    have hm : hd ∈ hs := hp5.mem_iff.mp (List.mem_of_getElem? hhd)
    have F7 := F6.same s7
    obtain ⟨a0, b0, c0, d0, e0, f0⟩ := F7.at_ hd hm
    refine ⟨rfl, R.yes (iteT (R.tup (R.cons (R.var (R.cons (R.cb (R.cons (R.dget (R.var (R.var ⟨pf, _, rfl, by rw [← a0]; exact DGet.k (k := Sum.inl hd) F7.g, R.nil ⟨rd hd, dkv (Ls hd), Ls hd, rfl, .inl b0, dkv_keys (Ls hd), fun ys m hpl hsl hm5 => R.nil ⟨by k_caughtN0, fun t ht => ?_⟩⟩⟩))))))))))⟩
    obtain rfl : ys = rgL (goL ns) e S hd := sorted_uniq (sorted_strict hpl hsl c0) (rgL_lt hs4) fun k => hpl.mem_iff.trans ((riff hd hm k).trans (mem_rgL hw hS ((hiff hd).mp hm)).symm)
    have u1 := same_upd (o := .lst ((rgL (goL ns) e S hd).map V.int)) hm5
    have u2 := same_upd (o := .tup [V.int hd, .ref m]) ht
    have nmD : m ≠ D := fun z => by rw [z, gD] at hm5; cases hm5
    have ntD : t ≠ D := fun z => by rw [z, u1 _ _ gD] at ht; cases ht
    have gm := u2 _ _ (upd_same (H := H8) (a := m) (o := .lst ((rgL (goL ns) e S hd).map V.int)))
    refine ⟨xs, u2 _ _ (u1 _ _ gD), Nat.lt_of_le_of_lt (m := 1300) (by omega) (by decide), Same.mut hD (s7.trans (u1.trans u2)), _, upd_same, by rw [List.length_append, lx]; rfl, fun j x hj => ?_⟩
    by_cases z : j < xs.length
    · rw [List.getElem?_append_left z] at hj
      obtain ⟨q', l', k', z1, z2, z3, z4, z5, z6, z7⟩ := hx7 j x hj
      exact ⟨q', l', k', z1, z2, upd_mut (fun y => by rw [y, gD] at z3; cases z3) (u2 _ _ (u1 _ _ z3)), z4, upd_mut z7 (u2 _ _ (u1 _ _ z5)), z6, z7⟩
    · have z : xs.length ≤ j := by omega
      rw [List.getElem?_append_right z] at hj
      have zj : j - xs.length = 0 := by
        cases y : j - xs.length with
        | zero => rfl
        | succ n =>
          rw [y] at hj
          cases hj
      rw [zj] at hj
      cases hj
      have : j = i := by omega
      rw [this]
      exact ⟨t, m, hd, hhd, rfl, upd_mut ntD upd_same, s7.free (u1.free ht), upd_mut nmD gm, s7.free hm5, nmD⟩
  · rintro H7 ⟨s7, xs, gD, lx, hx7⟩
    rw [List.length_map] at lx
    have nD0 : H D = none := s6.free hD
    exact q D H7 xs S (s6.trans s7) pt nD0 gD ⟨lx, fun j x hj => by
      obtain ⟨q', l', k', z1, z2, z3, z4, z5, z6, z7⟩ := hx7 j x hj
      exact ⟨q', l', k', z1, z2, z3, s6.free z4, z5, s6.free z6, z7⟩⟩
end
end Rl
namespace Rl
open PySem PySem.Spec PyProof.Rows L2
/-! ## not_led -/
section
variable {K : PySem.W.Frag} {w : World} {vs : List V} {H0 H H' H1 H2 H3 : Hp} {Q : VK} {E : XK} {d o D l pt : Addr} {ks S : List Int} {f g : Int → List Int} {k x e a : Int} {xs : List V} {σ : L2.St}
/-- the ways on from a row, without turns, as a list -/
theorem cutLc {W i j t : Nat} {Q' : VK} (hg : GrD H d ks f) (hw : Ways ks f) (T : DTp H pt fun a b => a ∈ ks ∧ b ∈ f a ∧ isTurn f e a b = true) (ak : a ∈ ks) (h0 : σ[W]? = some (some (.ref d))) (hi : σ[i]? = some (some (.int a)))
    (hw6 : ∀ y : V, wipe ((wipe σ [j]).set j (some y)) [j] = wipe σ [j]) (hj6 : ∀ y : V, ((wipe σ [j]).set j (some y))[j]? = some (some y)) (h2 : ∀ y : V, ((wipe σ [j]).set j (some y))[t]? = some (some (.ref pt))) (hi2 : ∀ y : V, ((wipe σ [j]).set j (some y))[i]? = some (some (.int a)))
    (q' : ∀ D H', H D = none → Same H H' → H' D = some (.lst ((cutG f e a).map V.int)) → Q' (.ref D) H') :
    tLc (iSeq K (tDGet (tVar W) (tVar i))) (gName j) (tB (tDNotIn (tTup (tCons (tVar i) (tCons (tVar j) tNil))) (tVar t))) (tVar j) [j] σ H Q' := by
  obtain ⟨m, dm, gm⟩ := hg.at_ ak
  refine R.lc (R.seqIter (R.dget (R.var (R.var ⟨d, _, rfl, dm _ (Same.refl _), ?_⟩ hi) h0)))
  refine R.lcFG (fun b => !isTurn f e a b) (SqL.of gm) (Nat.lt_of_le_of_lt (hw.len a ak) (by decide)) hw6 hj6 (fun b H4 hb s4 QB qb => ?_) q'
  obtain ⟨kv, g4, _, _, iv⟩ := T.same s4
  refine R.tB' (R.dnot (R.tup (R.cons (R.var (R.cons (R.var (R.nil ⟨by k_caughtN0, fun t ht => ?_⟩) (hj6 _))) (hi2 _)))))
  have s5 := same_upd (o := .tup [V.int a, .int b]) ht
  refine R.var ⟨pt, _, rfl, DGet.t (k := [Sum.inl a, Sum.inl b]) (s5 _ _ g4) upd_same, R.bl ?_⟩ (h2 _)
  have e1 : (valV kv [Sum.inl a, Sum.inl b]).isSome = isTurn f e a b := by
    cases hz : isTurn f e a b with
    | true => exact (iv a b).mpr ⟨ak, hb, hz⟩
    | false =>
      cases hy : (valV kv [Sum.inl a, Sum.inl b]).isSome with
      | false => rfl
      | true =>
        have := ((iv a b).mp hy).2.2
        rw [hz] at this
        cases this
  rw [e1]
  exact qb _ s5
/-- a truth for each, what is new may be made -/
theorem R.lcBG {a : Addr} {ns : List Int} {j : Nat} {te : TE} (P : Int → Bool) (h : SqL K H a (ns.map V.int)) (hl : ns.length < sizeLine) (hw : ∀ x, wipe ((wipe σ [j]).set j (some x)) [j] = wipe σ [j])
    (he : ∀ x H', x ∈ ns → Same H H' → ∀ Q' : VK, (∀ H'', Same H' H'' → Q' (.bl (P x)) H'') → te ((wipe σ [j]).set j (some (.int x))) H' Q')
    (q : ∀ D H', H D = none → Same H H' → H' D = some (.lst ((ns.map P).map V.bl)) → Q (.ref D) H') :
    (∃ b, V.ref a = .ref b ∧ (∃ xs, SqL K H b xs) ∧ ∀ D, H D = none → R.LcLoop (Itl K b) (L2.gName j) tYes te [j] σ D H Q) ∨ (∃ b, V.ref a = .ref b ∧ (∃ xs, SqT K H b xs) ∧ ∀ D, H D = none → R.LcLoop (Itt K b) (L2.gName j) tYes te [j] σ D H Q) := by
  refine .inl ⟨a, rfl, ⟨_, h⟩, fun D hD => ?_⟩
  refine R.lcI walk_list (fun i H' => Same H H' ∧ H' D = some (.lst (((ns.take i).map P).map V.bl))) ⟨same_upd hD, upd_same⟩ (fun i H' _ z => SqL.mono z.1 h) ?_ (fun H' z => q D H' hD z.1 (by
    have e := z.2
    rw [List.length_map, List.take_of_length_le (Nat.le_refl _)] at e
    exact e))
  rintro i x H1 H' hi ⟨z1, z2⟩ ⟨rfl, hx⟩
  rw [List.length_map] at hi
  rw [List.getElem?_map] at hx
  obtain ⟨y, hy, rfl⟩ := Option.map_eq_some_iff.mp hx
  refine ⟨hw _, R.yes (iteT (he y _ (List.mem_of_getElem? hy) z1 _ fun H2 s2 => ?_))⟩
  have z3 := s2 _ _ z2
  have lb : (ns.take i).length ≤ i := List.length_take_le ..
  refine ⟨_, z3, by rw [List.length_map, List.length_map]; omega, Same.mut hD (z1.trans s2), ?_⟩
  rw [upd_same, tk1 hy, List.map_append, List.map_append]
  rfl
/-- a dict of lists, not frozen -/
def GrU (H : Hp) (D : Addr) (ks : List Int) (g : Int → List Int) : Prop := ∃ kvs : List (Key × V), H D = some (.dK kvs) ∧ kvs.map Prod.fst = ks.map Sum.inl ∧ ∀ k ∈ ks, ∃ l, valV kvs (Sum.inl k) = some (.ref l) ∧ H l = some (.lst ((g k).map V.int))
theorem GrU.grD (h : GrU H D ks g) : GrD H D ks g := by
  obtain ⟨kvs, a, b, c⟩ := h
  exact ⟨kvs, .inl a, b, c⟩
theorem GrU.same (h : GrU H D ks g) (s : Same H H') : GrU H' D ks g := by
  obtain ⟨kvs, a, b, c⟩ := h
  exact ⟨kvs, s _ _ a, b, fun k hk => by
    obtain ⟨l, h1, h2⟩ := c k hk
    exact ⟨l, h1, s _ _ h2⟩⟩
theorem GrU.put {kvs : List (Key × V)} (h : GrU H D ks g) (gD : H D = some (.dK kvs)) (hx : k ∉ ks) (hl : H l = some (.lst ((g k).map V.int))) : GrU (upd H D (.dK (putK kvs (Sum.inl k) (.ref l)))) D (ks ++ [k]) g := by
  obtain ⟨kv, h1, h2, h3⟩ := h
  rw [gD] at h1
  cases h1
  have nl : ∀ {b : Addr} {ys : List V}, H b = some (.lst ys) → b ≠ D := fun hb z => by rw [z, gD] at hb; cases hb
  refine ⟨_, upd_same, ?_, fun j hj => ?_⟩
  · rw [putK_new _ (key_none h2 hx), List.map_append, h2, List.map_append]
    rfl
  · rw [valV_put]
    by_cases z : j = k
    · subst z
      rw [if_pos rfl]
      exact ⟨l, rfl, upd_mut (nl hl) hl⟩
    · rw [if_neg (fun y => z (Sum.inl.inj y))]
      have hm : j ∈ ks := (List.mem_append.mp hj).elim id fun y => absurd (List.mem_singleton.mp y) z
      obtain ⟨a, b, c⟩ := h3 j hm
      exact ⟨a, b, upd_mut (nl c) c⟩
theorem GrU.len (h : GrU H D ks g) : ∃ kvs, H D = some (.dK kvs) ∧ kvs.length = ks.length := by
  obtain ⟨kvs, a, b, _⟩ := h
  have := congrArg List.length b
  rw [List.length_map, List.length_map] at this
  exact ⟨kvs, a, this⟩
open Classical in
theorem ring_any {h : Int → List Int} {a : Int} : (((h a).map fun x => decide (Rch (fun y z => z ∈ h y) x a)).any id) = decide (RingG h a) := by
  cases hb : ((h a).map fun x => decide (Rch (fun y z => z ∈ h y) x a)).any id with
  | true =>
    obtain ⟨b, hb1, hb2⟩ := List.any_eq_true.mp hb
    obtain ⟨x, hx, rfl⟩ := List.mem_map.mp hb1
    exact (decide_eq_true ⟨x, hx, of_decide_eq_true hb2⟩).symm
  | false =>
    refine (decide_eq_false ?_).symm
    rintro ⟨x, hx, r⟩
    have := List.any_eq_false.mp hb true (List.mem_map.mpr ⟨x, hx, decide_eq_true r⟩)
    exact this rfl
open Classical in
theorem pure_not_led {F : Prop} (_ : F) (h : sp_not_led K w vs H Q E) : t_not_led K w { nx := fun _ H' => Q .non H', rt := Q } (start N_not_led vs) H := by
  obtain ⟨c, ns, e, rfl, hc, hb, hl, he, q⟩ := h
  unfold t_not_led
  refine R.seq (R.asg (R.call (R.cons (R.var (R.cons (R.var (R.nil ⟨c, ns, e, rfl, hc, hb, hl, he, fun d H1 ks s1 nd g1 W => R.gName ?_⟩)))))))
  have hw := W.w
  -- taken
  refine R.seq (R.asg (R.dct (R.seqIter (R.call (R.cons (R.var (R.cons (R.var (R.nil ⟨d, e, ks, goL ns, rfl, g1, hw, (W.all e).mpr .here, fun p H2 xs S sd hS hs np npd gp hT => .inl ⟨p, rfl, ⟨_, SqL.of gp⟩, fun D hD => ?_⟩⟩)))))))))
  have s2 := same_smw s1 nd sd
  have g2 := g1.smd sd
  have mk : ∀ k ∈ S, k ∈ ks := fun k h => hS.mem_iff.mp h
  have lS : S.length ≤ 1300 := by
    rw [hS.length_eq]
    exact hw.kl
  have lT := trnL_len hw e mk
  refine R.dctI walk_list (fun i H' => Same H2 H' ∧ DTq H' D ((trnL (goL ns) e S).take i)) ⟨same_upd hD, DTq.new⟩ (fun i H' _ z => SqL.of (z.1 _ _ gp)) ?_ ?_
  · rintro i x H3 H4 hi ⟨s3, T3⟩ ⟨rfl, hx⟩
    obtain ⟨t, ao, h1, rfl, h3, _⟩ := hT.2 i x hx
    obtain ⟨kv, g3, lk, _⟩ := id T3
    refine ⟨rfl, R.yes (iteT (R.var (R.c ⟨kv, [Sum.inl ao.1, Sum.inl ao.2], t, rfl, s3 _ _ h3, g3, ?_, Same.mut hD s3, ?_⟩)))⟩
    · refine Nat.lt_of_le_of_lt (m := 1700000) (Nat.le_trans lk (Nat.le_trans (List.length_take_le' ..) ?_)) (by decide)
      omega
    · rw [List.take_add_one, h1]
      exact T3.put g3
  rintro H3 ⟨s3, T3⟩
  rw [hT.1, List.take_length] at T3
  have T4 : DTp H3 D fun a b => a ∈ ks ∧ b ∈ goL ns a ∧ isTurn (goL ns) e a b = true := T3.to (by omega) fun a b => by rw [mem_trnL, hS.mem_iff]
  have g3 := g2.same s3
  have s03 := s2.trans s3
  clear T3 lT hT gp np sd g2 s2 s3
  refine R.gName ?_
  -- left
  obtain ⟨kvs, rd, hk, _⟩ := id g3
  have lk : kvs.length = ks.length := by
    have := congrArg List.length hk
    rw [List.length_map, List.length_map] at this
    exact this
  have kat : ∀ {i : Nat} {k : Key} {v : V}, kvs[i]? = some (k, v) → ∃ hi : i < ks.length, k = Sum.inl ks[i] := fun {i k v} h => by
    have hi : i < kvs.length := (List.getElem?_eq_some_iff.mp h).1
    have e1 : (kvs.map Prod.fst)[i]? = some k := by rw [List.getElem?_map, h]; rfl
    rw [hk, List.getElem?_map, List.getElem?_eq_getElem (by omega)] at e1
    exact ⟨by omega, (Option.some.inj e1).symm⟩
  have nk : ∀ {i : Nat} (hi : i < ks.length), ks[i] ∉ ks.take i := fun {i} hi hm => by
    have nd := hw.nd
    rw [← List.take_append_drop i ks, List.nodup_append] at nd
    exact nd.2.2 _ hm _ (List.mem_iff_getElem?.mpr ⟨0, by rw [List.getElem?_drop, Nat.add_zero, List.getElem?_eq_getElem hi]⟩) rfl
  have kl := hw.kl
  refine R.seq (R.asg (R.dc (R.keysF (R.var (R.keysAt rd fun o H4 e4 s4 D2 hD2 => ?_)))))
  have sd4 : SmW d H3 H4 := SmW.frz rd e4 s4
  have g4 := g3.smd sd4
  have T5 : DTp H4 D fun a b => a ∈ ks ∧ b ∈ goL ns a ∧ isTurn (goL ns) e a b = true := by
    obtain ⟨kv, x1, x2, x3, x4⟩ := T4
    refine ⟨kv, sd4.off _ _ (fun z => ?_) x1, x2, x3, x4⟩
    rw [z] at x1
    rcases rd with r | ⟨ob, r⟩ <;> (rw [x1] at r; cases r)
  have s04 := same_smw s03 nd sd4
  refine R.dcI walk_keys (fun i H' => Same H4 H' ∧ GrU H' D2 (ks.take i) (cutG (goL ns) e)) ⟨same_upd hD2, [], upd_same, rfl, fun _ h => nomatch h⟩ (fun i H' _ z => z.1 _ _ e4) ?_ ?_
  · rintro i x H5 H6 hi ⟨s5, U5⟩ ⟨rfl, k, v, hkv, rfl⟩
    obtain ⟨hi', rfl⟩ := kat hkv
    have km : ks[i] ∈ ks := List.getElem_mem hi'
    obtain ⟨kv, gD, lkv⟩ := U5.len
    rw [List.length_take] at lkv
    refine ⟨rfl, R.yes (iteT (R.var (cutLc (g4.same s5) hw (T5.same s5) km rfl rfl (fun _ => rfl) (fun _ => rfl) (fun _ => rfl) (fun _ => rfl) fun l H7 nl s7 gl => ⟨kv, Sum.inl ks[i], rfl, s7 _ _ gD, Nat.lt_of_le_of_lt (m := 1300) (by omega) (by decide), Same.mut hD2 (s5.trans s7), ?_⟩)))⟩
    have : ks.take (i + 1) = ks.take i ++ [ks[i]] := tk1 (List.getElem?_eq_getElem hi')
    rw [this]
    exact (U5.same s7).put (s7 _ _ gD) (nk hi') gl
  rintro H5 ⟨s5, U5⟩
  rw [lk, List.take_length] at U5
  have g5 := U5.grD
  have s05 := s04.trans s5
  clear U5 s5 T5 g4 sd4 e4 s4 hD2 g3 T4 s04
  refine R.gName ?_
  -- the first on a ring
  obtain ⟨kvs2, rd2, hk2, _⟩ := id g5
  refine R.seq (R.for' (R.seqIter (R.cb (R.cons (R.var (R.nil ⟨D2, kvs2, ks, rfl, rd2, hk2, fun S2 l hp2 hs2 nl => ?_⟩))))))
  obtain rfl : S2 = S := sorted_uniq (sorted_strict hp2 hs2 hw.nd) hs fun k => (hp2.mem_iff).trans hS.mem_iff.symm
  have st := same_upd (o := .lst (S2.map V.int)) nl
  have g6 := g5.same st
  have s06 := s05.trans st
  have gl6 : (upd H5 l (.lst (S2.map V.int))) l = some (.lst (S2.map V.int)) := upd_same
  generalize upd H5 l (.lst (S2.map V.int)) = H6 at g6 s06 gl6 st ⊢
  have wc := hw.cut e
  have pt : PtS ns e S2 := ⟨hs, fun k => hS.mem_iff.trans (W.all k)⟩
  refine R.forLI (ns := S2) (fun i σ H' => ∃ v8, σ = [some c, some (.int e), some (.ref d), some (.ref D), none, some (.ref D2), none, none, v8] ∧ Same H6 H' ∧ ∀ k ∈ S2.take i, ¬ RingG (cutG (goL ns) e) k) (SqL.of gl6) ⟨_, rfl, Same.refl _, fun k hk => nomatch hk⟩ (fun i σ H' _ ⟨_, _, z, _⟩ => SqL.of (z _ _ gl6)) ?_ ?_
  · rintro i a σ H7 ha aS hi ⟨v8, rfl, s7, hno⟩
    have ak := mk a aS
    obtain ⟨m, dm, gm⟩ := g6.at_ ak
    refine R.gName (R.ifS (R.tB' (R.cb (R.cons (R.lc (R.seqIter (R.dget (R.var (R.var ⟨D2, _, rfl, dm _ s7, ?_⟩)))))))))
    refine R.lcBG (fun x => decide (Rch (fun y z => z ∈ cutG (goL ns) e y) x a)) (SqL.of (s7 _ _ gm)) (Nat.lt_of_le_of_lt (wc.len a ak) (by decide)) (fun _ => rfl) (fun x H8 hx s8 Q' q' => ?_) fun Db H8 nDb s8 gDb => ?_
    · have g8 := (g6.same s7).same s8
      refine R.din (R.var (R.call (R.cons (R.var (R.cons (R.var (R.cons (R.c (R.nil ⟨D2, x, none, ks, cutG (goL ns) e, rfl, g8, wc, wc.clo a ak x hx, fun pf H9 fs s9 npf gpf nd9 hfs => ⟨pf, _, rfl, DGet.k (k := Sum.inl a) gpf, ?_⟩⟩)))))))))
      rw [dkv_get, show decide (a ∈ fs) = decide (Rch (fun y z => z ∈ cutG (goL ns) e y) x a) from decide_eq_decide.mpr ((hfs a).trans ct_none)]
      exact q' _ s9
    · refine R.nil (R.any' (SqL.of gDb) (R.bl ?_))
      rw [ring_any]
      refine R.iD (fun hr => ?_) (fun hr => R.next ⟨_, rfl, s7.trans s8, fun k hk => ?_⟩)
      · have e1 : nlS (goL ns) e S2 = some a := find_take ha (fun k hk => decide_eq_false (hno k hk)) (decide_eq_true hr)
        have z := q H8 S2 (s06.trans (s7.trans s8)) pt
        rw [e1] at z
        exact R.ret (R.var z)
      · rw [tk1 ha] at hk
        rcases List.mem_append.mp hk with hk | hk
        · exact hno k hk
        · rw [List.mem_singleton.mp hk]
          exact hr
  · rintro σ H7 ⟨v8, rfl, s7, hno⟩
    rw [List.take_length] at hno
    have e1 : nlS (goL ns) e S2 = none := List.find?_eq_none.mpr fun k hk => by
      rw [decide_eq_false (hno k hk)]
      exact Bool.false_ne_true
    have z := q H7 S2 (s06.trans s7) pt
    rw [e1] at z
    exact R.ret (R.c z)
end
end Rl
namespace Rl
open PySem PySem.Spec PyProof.Rows L2 NdefX LamX
/-! ## k39: a code behind some rests, its targets greater: plain -/
theorem row_parts {ns : List Int} {a m : Int} {l : List PyData} (h : rowAt ns a = some (l, m)) : 0 ≤ a ∧ ∃ b w sh, ns[a.toNat]? = some b ∧ dec b = some (w, sh) ∧
    ((isN sh = true ∧ m = 2 ∧ ∃ n, ns[a.toNat + 1]? = some n ∧ l = .str w :: restD b n sh) ∨ (isN sh = false ∧ m = 1 ∧ l = .str w :: restD b 0 sh)) := by
  have r := row_range h
  obtain ⟨b, e⟩ : ∃ b, ns[a.toNat]? = some b := ⟨_, List.getElem?_eq_getElem (by omega)⟩
  rw [rowAt_in ⟨r.1, r.2.1⟩ e] at h
  refine ⟨r.1, b, ?_⟩
  cases hd : dec b with
  | none =>
    have z : ∀ n, rowD b n = none := fun n => by
      unfold rowD
      rw [hd]
      rfl
    rw [z, z] at h
    split at h
    · split at h <;> cases h
    · cases h
  | some p =>
    obtain ⟨w, sh⟩ := p
    refine ⟨w, sh, e, rfl, ?_⟩
    rw [isLong_dec hd, rowD_dec hd, rowD_dec hd] at h
    cases hn : isN sh with
    | true =>
      rw [hn, if_pos rfl] at h
      split at h
      · rename_i h2
        have e2 : ns[a.toNat + 1]? = some ns[a.toNat + 1] := List.getElem?_eq_getElem (by omega)
        rw [List.getD_eq_getElem?_getD, e2] at h
        cases h
        exact .inl ⟨rfl, rfl, _, e2, rfl⟩
      · cases h
    | false =>
      rw [hn, if_neg Bool.false_ne_true] at h
      cases h
      exact .inr ⟨rfl, rfl, rfl⟩
theorem row_make {ns : List Int} {a b : Int} {w : Str} {sh : Sh} (h0 : 0 ≤ a) (hb : ns[a.toNat]? = some b) (hd : dec b = some (w, sh)) :
    (isN sh = true → ∀ n, ns[a.toNat + 1]? = some n → rowAt ns a = some (.str w :: restD b n sh, 2)) ∧ (isN sh = false → rowAt ns a = some (.str w :: restD b 0 sh, 1)) := by
  have l1 := (List.getElem?_eq_some_iff.mp hb).1
  constructor
  · intro hn n e
    have l2 := (List.getElem?_eq_some_iff.mp e).1
    rw [rowAt_in ⟨h0, by omega⟩ hb, isLong_dec hd, hn, if_pos rfl, if_pos (by omega), List.getD_eq_getElem?_getD, e, rowD_dec hd]
    rfl
  · intro hn
    rw [rowAt_in ⟨h0, by omega⟩ hb, isLong_dec hd, hn, if_neg Bool.false_ne_true, rowD_dec hd]
    rfl
/-- a row depends on its own bytes alone -/
theorem row_same {ns ds : List Int} {x y m : Int} {l : List PyData} (h : rowAt ns x = some (l, m)) (hy : 0 ≤ y) (e : ∀ i : Nat, (i : Int) < m → ds[y.toNat + i]? = ns[x.toNat + i]?) : rowAt ds y = some (l, m) := by
  obtain ⟨h0, b, w, sh, hb, hd, c⟩ := row_parts h
  rcases c with ⟨hn, rfl, n, h2, rfl⟩ | ⟨hn, rfl, rfl⟩
  · exact (row_make hy (by rw [← hb]; exact e 0 (by decide)) hd).1 hn n (by rw [← h2]; exact e 1 (by decide))
  · exact (row_make hy (by rw [← hb]; exact e 0 (by decide)) hd).2 hn
/-- of the words of targets the shape is one number -/
theorem tgt_sh {b : Int} {w : Str} {sh : Sh} (hb : 0 ≤ b ∧ b < 256) (hd : dec b = some (w, sh)) : w ∈ tgtT ↔ sh = .n := by
  have h := tgt_dec ⟨b.toNat, by omega⟩
  rw [show (((⟨b.toNat, by omega⟩ : Fin 256).val : Nat) : Int) = b from Int.toNat_of_nonneg hb.1, hd] at h
  have h2 := eq_of_beq h
  exact decide_eq_decide.mp h2
/-- the row at x of a code, its target so much greater at ds -/
def MvR (ns ds : List Int) (far : Nat) (x : Int) : Prop := ∃ l l' m, rowAt ns x = some (l, m) ∧ rowAt ds x = some (l', m) ∧ wordOf l' = wordOf l ∧ (wordOf l ∈ tgtT → numOf l' = numOf l + far)
theorem MvR.keep {ns ds es : List Int} {far : Nat} {x : Int} (h : MvR ns ds far x) (e : ∀ l m, rowAt ns x = some (l, m) → ∀ i : Nat, (i : Int) < m → es[x.toNat + i]? = ds[x.toNat + i]?) : MvR ns es far x := by
  obtain ⟨l, l', m, h1, h2, h3⟩ := h
  exact ⟨l, l', m, h1, row_same h2 (row_range h1).1 (e l m h1), h3⟩
/-- while the found rows are looked at -/
structure MvI (ns L ds : List Int) (far i : Nat) (last : Int) : Prop where
  len : ds.length = ns.length
  by_ : By ds
  l0 : 0 ≤ last
  ord : ∀ x ∈ L.take i, ∃ l m, rowAt ns x = some (l, m) ∧ x + m ≤ last
  eqv : ∀ p : Nat, last ≤ p → ds[p]? = ns[p]?
  don : ∀ x ∈ L.take i, MvR ns ds far x
section
variable {ns L ds : List Int} {far i : Nat} {last x m : Int} {l : List PyData}
theorem MvI.start (hb : By ns) : MvI ns L ns far 0 0 := ⟨rfl, hb, Int.le_refl _, (fun _ h => nomatch h), fun _ _ => rfl, (fun _ h => nomatch h)⟩
theorem take_one (hx : L[i]? = some x) {y : Int} (hy : y ∈ L.take (i + 1)) : y ∈ L.take i ∨ y = x := by
  rw [List.take_add_one, hx] at hy
  rcases List.mem_append.mp hy with h | h
  · exact .inl h
  · exact .inr (List.mem_singleton.mp h)
/-- a row without a target -/
theorem MvI.plain (M : MvI ns L ds far i last) (hx : L[i]? = some x) (hr : rowAt ns x = some (l, m)) (hl : last ≤ x) (hw : wordOf l ∉ tgtT) : MvI ns L ds far (i + 1) (x + m) := by
  have r := row_range hr
  refine ⟨M.len, M.by_, by omega, fun y hy => ?_, fun p hp => M.eqv p (by omega), fun y hy => ?_⟩
  · rcases take_one hx hy with h | rfl
    · obtain ⟨l', m', h1, h2⟩ := M.ord y h
      exact ⟨l', m', h1, by omega⟩
    · exact ⟨l, m, hr, Int.le_refl _⟩
  · rcases take_one hx hy with h | rfl
    · exact M.don y h
    · exact ⟨l, l, m, hr, row_same hr r.1 fun j hj => M.eqv _ (by omega), rfl, fun z => absurd z hw⟩
/-- a row with a target -/
theorem MvI.jump {w : Str} {t : Int} (M : MvI ns L ds far i last) (hb : By ns) (hx : L[i]? = some x) (hr : rowAt ns x = some ([.str w, .int t], m)) (hl : last ≤ x) (ht : t + far < 256) : MvI ns L (ds.set (x + 1).toNat (t + far)) far (i + 1) (x + m) := by
  have r := row_range hr
  obtain ⟨h0, b, w', sh, hb', hd, c⟩ := row_parts hr
  have hsh : sh = .n ∧ m = 2 ∧ w = w' ∧ 0 ≤ t := by
    rcases c with ⟨hn, rfl, n, h2, e⟩ | ⟨hn, rfl, e⟩
    · have e1 := (List.cons.inj e)
      obtain rfl : w = w' := by
        have := e1.1
        cases this
        rfl
      cases sh with
      | n =>
        have e2 := (List.cons.inj e1.2).1
        cases e2
        exact ⟨rfl, rfl, rfl, (hb t (List.mem_of_getElem? h2)).1⟩
      | rn =>
        have := congrArg List.length e1.2
        simp [restD] at this
      | e => cases hn
      | rs => cases hn
      | r => cases hn
    · have e1 := (List.cons.inj e).2
      cases sh with
      | n => cases hn
      | rn => cases hn
      | e => cases e1
      | rs => cases e1
      | r =>
        have := (List.cons.inj e1).1
        cases this
  obtain ⟨rfl, rfl, rfl, t0⟩ := hsh
  have ex : (x + 1).toNat = x.toNat + 1 := by omega
  rw [ex]
  have gx : ∀ p : Nat, p ≠ x.toNat + 1 → (ds.set (x.toNat + 1) (t + far))[p]? = ds[p]? := fun p hp => by
    rw [List.getElem?_set_ne (fun z => hp z.symm)]
  refine ⟨by rw [List.length_set]; exact M.len, M.by_.set (by omega) ht, by omega, fun y hy => ?_, fun p hp => ?_, fun y hy => ?_⟩
  · rcases take_one hx hy with h | rfl
    · obtain ⟨l', m', h1, h2⟩ := M.ord y h
      exact ⟨l', m', h1, by omega⟩
    · exact ⟨_, _, hr, Int.le_refl _⟩
  · rw [gx p (by omega)]
    exact M.eqv p (by omega)
  · rcases take_one hx hy with h | rfl
    · obtain ⟨l', m', h1, h2⟩ := M.ord y h
      have r2 := row_range h1
      refine (M.don y h).keep fun l2 m2 h3 j hj => gx _ ?_
      rw [h1] at h3
      cases h3
      omega
    · have lx : y.toNat + 1 < ds.length := by rw [M.len]; omega
      refine ⟨_, [.str w, .int (t + far)], 2, hr, (row_make h0 (sh := .n) (w := w) (b := b) ?_ hd).1 rfl (t + far) ?_, rfl, fun _ => rfl⟩
      · rw [gx _ (by omega), M.eqv _ (by omega)]
        exact hb'
      · rw [List.getElem?_set_self lx]
end
/-- the code further on -/
def MvP (ns : List Int) (far : Nat) (M : List Int) : Prop := By M ∧ M.length = ns.length + far ∧ (∀ k : Int, 0 ≤ k → k < far → behind M k = some (k + 1) ∧ tgt M k = none) ∧
  ∃ L, Fnd ns L ∧ ∀ x ∈ L, behind M (x + far) = (behind ns x).map (· + (far : Int)) ∧ tgt M (x + far) = (tgt ns x).map (· + (far : Int)) ∧ isCall M (x + far) = isCall ns x
theorem MvI.done {ns L ds : List Int} {far : Nat} {last : Int} (M : MvI ns L ds far L.length last) (hL : Fnd ns L) : MvP ns far (List.replicate far 2 ++ ds) := by
  have lr : (List.replicate far (2 : Int)).length = far := List.length_replicate
  refine ⟨fun y hy => ?_, by rw [List.length_append, lr, M.len, Nat.add_comm], fun k h0 h1 => ?_, L, hL, fun x hx => ?_⟩
  · rcases List.mem_append.mp hy with h | h
    · rw [(List.mem_replicate.mp h).2]
      decide
    · exact M.by_ y h
  · have e : (List.replicate far (2 : Int) ++ ds)[k.toNat]? = some 2 := by
      rw [List.getElem?_append_left (by rw [lr]; omega), List.getElem?_replicate, if_pos (by omega)]
    have hr : rowAt (List.replicate far 2 ++ ds) k = some ([.str "rest"], 1) := (row_make h0 e (w := "rest") (sh := .e) (by decide +kernel)).2 rfl
    unfold behind tgt
    rw [hr]
    exact ⟨if_neg (by decide +kernel), if_neg (by decide +kernel)⟩
  · have hx' : x ∈ L.take L.length := by rw [List.take_length]; exact hx
    obtain ⟨l, l', m, h1, h2, h3, h4⟩ := M.don x hx'
    have r := row_range h2
    have hr : rowAt (List.replicate far 2 ++ ds) (x + far) = some (l', m) := row_same h2 (by omega) fun j hj => by
      rw [List.getElem?_append_right (by rw [lr]; omega), lr]
      congr 1
      omega
    unfold behind tgt isCall
    rw [hr, h1]
    simp only [h3]
    refine ⟨?_, ?_, trivial⟩
    · split
      · rfl
      · rw [Option.map_some]
        congr 1
        omega
    · split
      · rename_i hw
        rw [Option.map_some, h4 hw]
      · rfl
theorem MvP.iso {ns M : List Int} {far : Nat} (h : MvP ns far M) (hb : By ns) (hl : ns.length ≤ 1000) (h1 : 1 ≤ far) : Iso (goL ns) (goL M) far := by
  obtain ⟨_, _, p, L, hL, q⟩ := h
  refine ⟨h1, fun x hx => ?_, fun k k0 k1 y => ?_, fun x hx y => ?_⟩
  · exact (rch_in hx ⟨by decide, by decide⟩ fun _ _ n => nxG_fewG hb hl (mem_goN.mp n) : FewG x).1
  · rw [mem_goN]
    obtain ⟨e1, e2⟩ := p k k0 k1
    unfold NxG
    rw [e1, e2]
    constructor
    · rintro (z | ⟨_, z⟩)
      · exact (Option.some.inj z).symm
      · cases z
    · rintro rfl
      exact .inl rfl
  · have xL : x ∈ L := (hL.2 x).mpr (rch_mono (fun _ _ n => (mem_goN.mp n).imp id fun z => z.2) hx)
    obtain ⟨e1, e2, e3⟩ := q x xL
    rw [mem_goN]
    unfold NxG
    rw [e1, e2, e3, Option.map_eq_some_iff, Option.map_eq_some_iff]
    constructor
    · rintro (⟨z, h, e⟩ | ⟨c, z, h, e⟩)
      · exact ⟨z, mem_goN.mpr (.inl h), e.symm⟩
      · exact ⟨z, mem_goN.mpr (.inr ⟨c, h⟩), e.symm⟩
    · rintro ⟨z, h, rfl⟩
      rcases mem_goN.mp h with h | ⟨c, h⟩
      · exact .inl ⟨z, h, rfl⟩
      · exact .inr ⟨c, z, h, rfl⟩
theorem op_len {op : Op} {b n : Int} {w : Str} {sh : Sh} (h : op.data = .str w :: restD b n sh) : op.bytes.length = if isN sh then 2 else 1 := by
  cases op <;> cases sh <;> first | rfl | (simp [Op.data, restD] at h)
end Rl
namespace Rl
open PySem PySem.Spec PyProof.Rows L2 NdefX LamX
/-! ## k39: its own promises -/
def sp_law_straight (_ : PySem.W.Frag) (_ : World) : Sp := spBy 130
def sp_law_moved (K : PySem.W.Frag) (_ : World) : Sp := fun vs H Q _ => ∃ (p : Addr) (ns : List Int) (far : Nat), vs = [.ref p, .int (far : Nat)] ∧ H p = some (.lst (ns.map V.int)) ∧ By ns ∧ ns.length ≤ 200 ∧ 1 ≤ far ∧ far ≤ 12 ∧ TabsN (NT K) H ∧
  (∀ H', ExtN H H' → TabsN (NT K) H' → Q .non H') ∧ ∀ (o : Addr) (H' : Hp) (M : List Int), ExtN H H' → TabsN (NT K) H' → H' o = some (.lst (M.map V.int)) → MvP ns far M → Q (.ref o) H'
def sp_law_right (K : PySem.W.Frag) (_ : World) : Sp := fun vs H Q _ => ∃ (p : Addr) (ns : List Int) (far : Nat), vs = [.ref p, .int (far : Nat)] ∧ H p = some (.lst (ns.map V.int)) ∧ By ns ∧ ns.length ≤ 200 ∧ 1 ≤ far ∧ far ≤ 12 ∧ TabsN (NT K) H ∧ ∀ H', ExtN H H' → TabsN (NT K) H' → Q (.bl true) H'
def sp_law (K : PySem.W.Frag) (_ : World) : Sp := fun vs H Q _ => ∃ (a : Addr) (ns : List Int), vs = [.ref a] ∧ SqL K H a (ns.map V.int) ∧ ns.length ≤ 63 ∧ TabsN (NT K) H ∧ ∀ H', Q (.bl true) H'
section
variable {K : PySem.W.Frag} {w : World} {vs : List V} {H : Hp} {Q : VK} {E : XK}
theorem len_law_straight (h : sp_law_straight K w vs H Q E) : vs.length = 1 := by
  obtain ⟨_, rfl, _⟩ := h
  rfl
theorem len_law_moved (h : sp_law_moved K w vs H Q E) : vs.length = 2 := by
  obtain ⟨_, _, _, rfl, _⟩ := h
  rfl
theorem len_law_right (h : sp_law_right K w vs H Q E) : vs.length = 2 := by
  obtain ⟨_, _, _, rfl, _⟩ := h
  rfl
theorem len_law (h : sp_law K w vs H Q E) : vs.length = 1 := by
  obtain ⟨_, _, rfl, _⟩ := h
  rfl
theorem law_in {a : Addr} {ns : List Int} (hl : ns.length ≤ 63) (hT : TabsN (NT K) H) (hS : SqL K H a (ns.map V.int)) : sp_law K w [.ref a] H (fun v _ => v = .bl true) E := ⟨a, ns, rfl, hS, hl, hT, fun _ => rfl⟩
end
theorem Spr.extN {H H' : Hp} {r : Addr} (h : Spr H r) (e : ExtN H H') : Spr H' r := by
  obtain ⟨a, b, c, h1, h2⟩ := h
  exact ⟨a, b, c, e _ _ h1 (fun _ z => nomatch z), h2⟩
theorem TabsN.spr {H H' : Hp} {T : List NTab} {r : Addr} (t : TabsN T H) (R : Spr H r) (f : Fx r H H') : TabsN T H' := fun u hu => by
  obtain ⟨a, b, c, hr, _⟩ := R
  obtain ⟨ps, h1, h2, h3⟩ := t u hu
  refine ⟨ps, f.at (fun z => by rw [z, hr] at h1; cases h1) h1, h2, fun pos cv hc => ?_⟩
  obtain ⟨c, e1, e2⟩ := h3 pos cv hc
  exact ⟨c, e1, f.at (fun z => by rw [z, hr] at e2; unfold CodeO at e2; cases e2) e2⟩
end Rl
namespace Rl
open PySem PySem.Spec PyProof.Rows L2 NdefX LamX
/-- _law_straight: slots 0 _law_spring_here, 1 _law_rows, 2 _law_turn, 3 _law_starts, 4 _law_far, 5 _law_row, 6 _law_code -/
def t_law_straight (K : PySem.W.Frag) (w : World) : TS :=
  (tSeq (tAsg (tLc (iRng1 (tCons (tOp (rAddA K) (tC (.int 1)) (tCall (sp_law_draw K w) [] E0 (tCons (tVar 0) (tCons (tOp (rIx K) (tLst (tCons (tC (.int 6)) (tCons (tC (.int 12)) (tCons (tC (.int 30)) (tCons (tC (.int 60)) tNil))))) (tCall (sp_law_draw K w) [] E0 (tCons (tVar 0) (tCons (tC (.int 4)) tNil)))) tNil)))) tNil)) (gName 2) tYes (tCall (sp_law_drawn_row K w) [] E0 (tCons (tVar 0) tNil)) [2]) (gName 1)) (tSeq (tDrop (tBM K "list" rAppend (tVar 1) (tCons (tTup (tCons (tC (.str "halt")) tNil)) tNil))) (tSeq (tAsg (tLst tNil) (gName 3)) (tSeq (tAsg (tC (.int 0)) (gName 4)) (tSeq (tFor (iSeq K (tVar 1)) (gName 5) (tSeq (tDrop (tBM K "list" rAppend (tVar 3) (tCons (tVar 4) tNil))) (tAsg (tOp (rAddA K) (tVar 4) (tCB (rLenA K) (tCons (tCall (sp_law_bytes K w) [] E0 (tCons (tVar 5) tNil)) tNil))) (gName 4)))) (tSeq (tAsg (tLst tNil) (gName 6)) (tSeq (tFor (iSeq K (tVar 1)) (gName 5) (tSeq (tIfS (tAnd (tTest (tOp (rEqA K) (tCB (rLenA K) (tCons (tVar 5) tNil)) (tC (.int 2)))) (tB (tCB (rIsi K) (tCons (tOp (rIx K) (tVar 5) (tC (.int 1))) (tCons (tC (.ty "int")) tNil))))) (tAsg (tTup (tCons (tOp (rIx K) (tVar 5) (tC (.int 0))) (tCons (tOp (rIx K) (tVar 3) (tCall (sp_law_draw K w) [] E0 (tCons (tVar 0) (tCons (tCB (rLenA K) (tCons (tVar 3) tNil)) tNil)))) tNil))) (gName 5)) tNext) (tAsg (tOp (rAddA K) (tVar 6) (tCall (sp_law_bytes K w) [] E0 (tCons (tVar 5) tNil))) (gName 6)))) (tRet (tVar 6)))))))))
abbrev N_law_straight : List Str := ["_law_spring_here", "_law_rows", "_law_turn", "_law_starts", "_law_far", "_law_row", "_law_code"]

/-- _law_moved: slots 0 _law_code, 1 _law_far, 2 _law_found, 3 _law_last, 4 _law_at, 5 _law_row -/
def t_law_moved (K : PySem.W.Frag) (w : World) : TS :=
  (tSeq (tAsg (tCB (rListA K) (tCons (tVar 0) tNil)) (gName 2)) (tSeq (tAsg (tC (.int 0)) (gName 3)) (tSeq (tFor (iSeq K (tCall (sp_found_rows K w) [] E0 (tCons (tVar 0) tNil))) (gTup K 2 (gCons (gName 4) (gCons (gName 5) gNil))) (tSeq (tIfS (tOr (tTest (tOp (rIsN) (tVar 5) (tC .non))) (tTest (tOp (rLtA) (tVar 4) (tVar 3)))) (tRet (tC .non)) tNext) (tSeq (tAsg (tOp (rAddA K) (tVar 4) (tCB (rLenA K) (tCons (tCall (sp_law_bytes K w) [] E0 (tCons (tVar 5) tNil)) tNil))) (gName 3)) (tIfS (tAnd (tTest (tOp (rEqA K) (tCB (rLenA K) (tCons (tVar 5) tNil)) (tC (.int 2)))) (tB (tCB (rIsi K) (tCons (tOp (rIx K) (tVar 5) (tC (.int 1))) (tCons (tC (.ty "int")) tNil))))) (tSeq (tIfS (tTest (tOp (rGtA) (tOp (rAddA K) (tOp (rIx K) (tVar 5) (tC (.int 1))) (tVar 1)) (tC (.int 255)))) (tRet (tC .non)) tNext) (tAsg (tOp (rAddA K) (tOp (rIx K) (tVar 5) (tC (.int 1))) (tVar 1)) (gSub (tVar 2) (tOp (rAddA K) (tVar 4) (tC (.int 1))) rSetL))) tNext)))) (tRet (tOp (rAddA K) (tOp (rMulA) (tLst (tCons (tC (.int 2)) tNil)) (tVar 1)) (tVar 2))))))
abbrev N_law_moved : List Str := ["_law_code", "_law_far", "_law_found", "_law_last", "_law_at", "_law_row"]

/-- _law_right: slots 0 _law_code, 1 _law_far, 2 _law_other, 3 _law_ahead, 4 _law_due, 5 _law_at, 6 _law_one, 7 _law_over, 8 _law_head, 9 _law_ring, 10 _law_barred -/
def t_law_right (K : PySem.W.Frag) (w : World) : TS :=
  (tSeq (tAsg (tCall (sp_law_moved K w) [] E0 (tCons (tVar 0) (tCons (tVar 1) tNil))) (gName 2)) (tSeq (tIfS (tTest (tOp (rIsN) (tVar 2) (tC .non))) (tRet (tC (.bl true))) tNext) (tSeq (tAsg (tLstRg (tRg1 (tVar 1))) (gName 3)) (tSeq (tAsg (tLc (iSeq K (tVar 3)) (gName 5) tYes (tTup (tCons (tVar 5) (tCons (tSl (rSlA K) (tVar 3) tNoPart (tPart (tOp (rAddA K) (tVar 5) (tC (.int 1))))) tNil))) [5]) (gName 4)) (tSeq (tAsg (tOp (rAddA K) (tVar 4) (tLc (iSeq K (tCall (sp_led_over K w) [] E0 (tCons (tVar 0) (tCons (tC (.int 0)) tNil)))) (gTup K 2 (gCons (gName 5) (gCons (gName 7) gNil))) tYes (tTup (tCons (tOp (rAddA K) (tVar 5) (tVar 1)) (tCons (tOp (rAddA K) (tVar 3) (tLc (iSeq K (tVar 7)) (gName 6) tYes (tOp (rAddA K) (tVar 6) (tVar 1)) [6])) tNil))) [5, 7])) (gName 4)) (tSeq (tIfS (tTest (tOp (rNeA K) (tCall (sp_led_over K w) [] E0 (tCons (tVar 2) (tCons (tC (.int 0)) tNil))) (tVar 4))) (tRet (tC (.bl false))) tNext) (tSeq (tIfS (tTest (tOp (rNeA K) (tCall (sp_rings K w) [] E0 (tCons (tVar 2) (tCons (tC (.int 0)) tNil))) (tLc (iSeq K (tCall (sp_rings K w) [] E0 (tCons (tVar 0) (tCons (tC (.int 0)) tNil)))) (gTup K 2 (gCons (gName 8) (gCons (gName 9) gNil))) tYes (tTup (tCons (tOp (rAddA K) (tVar 8) (tVar 1)) (tCons (tLc (iSeq K (tVar 9)) (gName 5) tYes (tOp (rAddA K) (tVar 5) (tVar 1)) [5]) tNil))) [8, 9]))) (tRet (tC (.bl false))) tNext) (tSeq (tAsg (tCall (sp_not_led K w) [] E0 (tCons (tVar 0) (tCons (tC (.int 0)) tNil))) (gName 10)) (tRet (tOp (rEqA K) (tCall (sp_not_led K w) [] E0 (tCons (tVar 2) (tCons (tC (.int 0)) tNil))) (tIf (tTest (tOp (rIsN) (tVar 10) (tC .non))) (tC .non) (tOp (rAddA K) (tVar 10) (tVar 1)))))))))))))
abbrev N_law_right : List Str := ["_law_code", "_law_far", "_law_other", "_law_ahead", "_law_due", "_law_at", "_law_one", "_law_over", "_law_head", "_law_ring", "_law_barred"]

/-- law: slots 0 _law_script, 1 _law_spring_here, 2 _law_turn, 3 _law_code -/
def t_law (K : PySem.W.Frag) (w : World) : TS :=
  (tSeq (tAsg (tCall (sp_law_spring K w) [] E0 (tCons (tVar 0) tNil)) (gName 1)) (tSeq (tFor (iRng1 (tCons (tOp (rAddA K) (tC (.int 1)) (tCB (rMin2) (tCons (tCB (rLenA K) (tCons (tVar 0) tNil)) (tCons (tC (.int 4)) tNil)))) tNil)) (gName 2) (tSeq (tAsg (tCall (sp_law_straight K w) [] E0 (tCons (tVar 1) tNil)) (gName 3)) (tSeq (tIfS (tTest (tOp (rEqA K) (tCall (sp_law_draw K w) [] E0 (tCons (tVar 1) (tCons (tC (.int 2)) tNil))) (tC (.int 0)))) (tAsg (tOp (rIx K) (tCall (sp_law_made K w) [] E0 (tCons (tVar 1) (tCons (tLst tNil) tNil))) (tC (.int 0))) (gName 3)) tNext) (tIfS (tNot (tB (tCall (sp_law_right K w) [] E0 (tCons (tVar 3) (tCons (tCB (rMin2) (tCons (tOp (rAddA K) (tC (.int 1)) (tCall (sp_law_draw K w) [] E0 (tCons (tVar 1) (tCons (tC (.int 12)) tNil)))) (tCons (tOp (rSubA) (tC (.int 200)) (tCB (rLenA K) (tCons (tVar 3) tNil))) tNil))) tNil))))) (tRet (tC (.bl false))) tNext)))) (tRet (tC (.bl true)))))
abbrev N_law : List Str := ["_law_script", "_law_spring_here", "_law_turn", "_law_code"]

end Rl
namespace Rl
open PySem PySem.Spec PyProof.Rows L2 NdefX LamX
section
variable {K : PySem.W.Frag} {w : World} {vs : List V} {H H' H2 : Hp} {Q : VK} {E : XK} {σ : L2.St}
theorem pure_law_straight {F : Prop} (_ : F) (h : sp_law_straight K w vs H Q E) : t_law_straight K w { nx := fun _ H' => Q .non H', rt := Q } (start N_law_straight vs) H := by
  obtain ⟨r, rfl, hS, q⟩ := h
  unfold t_law_straight
  refine R.seq (R.asg (R.lc (R.rng1 (R.cons (R.op (R.c (R.call (R.cons (R.var (R.cons (R.op (R.lst (R.cons (R.c (R.cons (R.c (R.cons (R.c (R.cons (R.c (R.nil ⟨by k_caughtN0, fun l hl => ?_⟩)))))))))))))))))))))
  refine R.call (R.cons (R.var (R.cons (R.c (R.nil ⟨r, 4, rfl, hS.keep (same_upd hl), by decide, by decide, fun i H2 f2 S2 i0 i1 => ?_⟩)))))
  refine R.ixLI (ns := [6, 12, 30, 60]) (SqL.of (f2.at (hS.ne hl) upd_same)) i0 i1 fun most _ hmost => R.nil ?_
  have hm2 : 6 ≤ most ∧ most ≤ 60 := by
    simp at hmost
    omega
  refine ⟨r, most, rfl, S2, by omega, by omega, fun n H3 f3 S3 n0 n1 => R.addI (R.nil (R.rng1v (by omega) (by omega) ?_))⟩
  have F3 : Fx r H H3 := Fx.trans (Same.but (same_upd hl)) (f2.trans f3)
  refine lcS (RowV · r) (fun _ _ _ h f => h.fx f) (fun _ _ _ _ _ h g => h.mut g) S3 (by omega) (fun _ => rfl) ?_ ?_
  · intro k H4 hk S4 Q' q'
    exact R.call (R.cons (R.var (R.nil ⟨r, rfl, S4, fun v H5 f5 S5 hv => q' v H5 f5 S5 hv⟩)))
  intro D H4 us hD nD f4 S4 gD hul hP
  have F4 := F3.trans f4
  have lu : us.length ≤ 60 := by omega
  refine R.gName (R.seq (R.drop (R.bm (R.var (R.tyL gD (R.cons (R.tup (R.cons (R.c (R.nil ⟨by k_caughtN0, fun t ht => R.nil ?_⟩))))))))))
  have s5 := same_upd (o := .tup [V.str "halt"]) ht
  have nt := S4.ne ht
  have ntD : t ≠ D := fun z => by rw [z, gD] at ht; cases ht
  have hDH : H D = none := Fx.freeS F3 S3 hD
  refine R.append (s5 _ _ gD) (Nat.lt_of_le_of_lt lu (by decide)) ?_
  have F6 : Fx r H (upd (upd H4 t (.tup [V.str "halt"])) D (.lst (us ++ [.ref t]))) := Fx.mutN hDH (F4.trans (Same.but s5))
  have S6 : Spr (upd (upd H4 t (.tup [V.str "halt"])) D (.lst (us ++ [.ref t]))) r := (S4.keep s5).mut nD
  have g6 : (upd (upd H4 t (.tup [V.str "halt"])) D (.lst (us ++ [.ref t]))) D = some (.lst (us ++ [.ref t])) := upd_same
  have P6 : ∀ v ∈ us ++ [.ref t], RowV (upd (upd H4 t (.tup [V.str "halt"])) D (.lst (us ++ [.ref t]))) r v := fun v hv => by
    rcases List.mem_append.mp hv with hv | hv
    · exact ((hP v hv).same s5).mut (s5 _ _ gD)
    · rw [List.mem_singleton.mp hv]
      exact ⟨t, .halt, rfl, nt, upd_mut ntD upd_same, trivial⟩
  have l6 : (us ++ [V.ref t]).length ≤ 61 := by rw [List.length_append]; exact Nat.succ_le_succ lu
  have l1 : 1 ≤ (us ++ [V.ref t]).length := by rw [List.length_append]; exact Nat.le_add_left _ _
  generalize us ++ [V.ref t] = xs at F6 S6 g6 P6 l6 l1
  generalize upd (upd H4 t (.tup [V.str "halt"])) D (.lst xs) = H6 at F6 S6 g6 P6 ⊢
  clear gD hP s5 S4 F4 f4 ht ntD nt hul lu F3
  refine R.seq (R.asg (R.lst (R.nil ⟨by k_caughtN0, fun st hst => R.gName ?_⟩)))
  have nst : st ≠ r := S6.ne hst
  have nlst : D ≠ st := fun z => by rw [← z, g6] at hst; cases hst
  have hst0 : H st = none := Fx.freeS F6 S6 hst
  refine R.seq (R.asg (R.c (R.gName ?_)))
  refine R.seq (R.for' (R.seqIter (R.var ?_)))
  refine R.forL (xs := xs) (fun i σ H' => ∃ (far : Int) (ss : List Int) (v5 : Option V), σ = [some (.ref r), some (.ref D), none, some (.ref st), some (.int far), v5, none] ∧ Fx r H H' ∧ Spr H' r ∧ H' D = some (.lst xs) ∧ H' st = some (.lst (ss.map V.int)) ∧ 0 ≤ far ∧ far ≤ 2 * i ∧ ss.length = i ∧ (∀ s ∈ ss, 0 ≤ s ∧ s ≤ 2 * i) ∧ ∀ v ∈ xs, RowV H' r v)
    (SqL.of (upd_get hst g6)) ⟨0, [], _, rfl, F6.trans (Same.but (same_upd hst)), S6.keep (same_upd hst), upd_get hst g6, upd_same, Int.le_refl _, by decide, rfl, fun _ z => (nomatch z), fun v hv => (P6 v hv).same (same_upd hst)⟩ (fun i σ H' _ z => by
      obtain ⟨_, _, _, _, _, _, z, _⟩ := z
      exact SqL.of z) ?_ ?_
  · clear P6 g6 S6 F6 hst
    rintro i x σ H1 hxi hi ⟨far, ss, v4, rfl, f1, S1, gl1, gs1, far0, far1, hsl, hss, hr1⟩
    obtain ⟨p, op, rfl, np, gp, ok⟩ := hr1 x (List.mem_of_getElem? hxi)
    have npst : p ≠ st := fun z => by rw [z, gs1] at gp; cases gp
    refine R.gName ?_
    refine R.seq (R.drop (R.bm (R.var (R.tyL gs1 (R.cons (R.var (R.nil (R.appendI gs1 (Nat.lt_of_le_of_lt (m := 100) (by omega) (by decide)) ?_))))))))
    have S2 : Spr (upd H1 st (.lst ((ss ++ [far]).map V.int))) r := S1.mut nst
    have f2 : Fx r H (upd H1 st (.lst ((ss ++ [far]).map V.int))) := Fx.mutN hst0 f1
    have gl2 : (upd H1 st (.lst ((ss ++ [far]).map V.int))) D = some (.lst xs) := upd_mut nlst gl1
    have gs2 : (upd H1 st (.lst ((ss ++ [far]).map V.int))) st = some _ := upd_same
    have gp2 : (upd H1 st (.lst ((ss ++ [far]).map V.int))) p = some (.tup op.vals) := upd_mut npst gp
    have hr2 : ∀ v ∈ xs, RowV (upd H1 st (.lst ((ss ++ [far]).map V.int))) r v := fun v hv => (hr1 v hv).mut gs1
    generalize upd H1 st (.lst ((ss ++ [far]).map V.int)) = H2 at S2 f2 gl2 gs2 gp2 hr2 ⊢
    refine R.asg (R.op (R.var (R.cb (R.cons (R.call (R.cons (R.var (R.nil ?_))))))))
    refine ⟨p, op, rfl, SqT.of gp2, ok, fun lb H3 s3 hlb glb => R.nil (R.lenLI (SqL.of glb) (R.addI (R.gName ?_)))⟩
    have lb2 := (bytes_by op ok).2
    refine ⟨_, ss ++ [far], _, rfl, f2.trans (Same.but s3), S2.keep s3, s3 _ _ gl2, s3 _ _ gs2, by omega, by omega, by rw [List.length_append, hsl]; rfl, fun s hs => ?_, fun v hv => (hr2 v hv).same s3⟩
    rcases List.mem_append.mp hs with z | z
    · have := hss s z
      omega
    · rw [List.mem_singleton.mp z]
      omega
  clear P6 g6 S6 F6 hst
  rintro σ H1 ⟨far, ss, v4, rfl, f1, S1, gl1, gs1, far0, far1, hsl, hss, hr1⟩
  refine R.seq (R.asg (R.lst (R.nil ⟨by k_caughtN0, fun c0 hc0 => R.gName ?_⟩)))
  have nc0 : c0 ≠ r := S1.ne hc0
  have s2 : Same H1 (upd H1 c0 (.lst [])) := same_upd hc0
  refine R.seq (R.for' (R.seqIter (R.var ?_)))
  refine R.forL (xs := xs) (fun i σ H' => ∃ (cd : Addr) (ds : List Int) (v5 : Option V), σ = [some (.ref r), some (.ref D), none, some (.ref st), some (.int far), v5, some (.ref cd)] ∧ Fx r H H' ∧ Spr H' r ∧ H' D = some (.lst xs) ∧ H' st = some (.lst (ss.map V.int)) ∧ cd ≠ r ∧ H cd = none ∧ H' cd = some (.lst (ds.map V.int)) ∧ By ds ∧ i ≤ ds.length ∧ ds.length ≤ 2 * i ∧ ∀ v ∈ xs, RowV H' r v)
    (SqL.of (s2 _ _ gl1)) ⟨c0, [], _, rfl, f1.trans (Same.but s2), S1.keep s2, s2 _ _ gl1, s2 _ _ gs1, nc0, Fx.freeS f1 S1 hc0, upd_same, fun _ z => (nomatch z), Nat.le_refl _, Nat.le_refl _, fun v hv => (hr1 v hv).same s2⟩ (fun i σ H' _ z => by
      obtain ⟨_, _, _, _, _, _, z, _⟩ := z
      exact SqL.of z) ?_ ?_
  · clear hr1 gs1 gl1 S1 f1 hc0 s2
    rintro i x σ H1 hxi hi ⟨cd, ds, v5, rfl, f1, S1, gl1, gs1, ncd, hcd, gcd, hb, hd1, hd2, hr1⟩
    obtain ⟨p, op, rfl, np, gp, ok⟩ := hr1 x (List.mem_of_getElem? hxi)
    refine R.gName ?_
    refine R.seq (R.joinS (fun σ H' => ∃ (p' : Addr) (op' : Op), σ = [some (.ref r), some (.ref D), none, some (.ref st), some (.int far), some (.ref p'), some (.ref cd)] ∧ Fx r H1 H' ∧ Spr H' r ∧ p' ≠ r ∧ H' p' = some (.tup op'.vals) ∧ op'.Ok) ?_ fun N key => ?_)
    · rintro σ H2 ⟨p', op', rfl, f2, S2, np', gp', ok'⟩
      refine R.asg (R.op (R.var (R.call (R.cons (R.var (R.nil ?_))))))
      refine ⟨p', op', rfl, SqT.of gp', ok', fun lb H3 s3 hlb glb => ?_⟩
      have bb := bytes_by op' ok'
      have b1 : op'.bytes.length = op'.snd.length + 1 := rfl
      have gcd3 := s3 _ _ (f2.at ncd gcd)
      refine R.catI gcd3 glb (Nat.le_trans (m := 300) (by omega) (by decide)) fun c3 hc3 => R.gName ?_
      have s4 := s3.trans (same_upd (o := .lst ((ds ++ op'.bytes).map V.int)) hc3)
      have f4 : Fx r H1 _ := f2.trans (Same.but s4)
      refine ⟨c3, ds ++ op'.bytes, _, rfl, f1.trans f4, S2.keep s4, f4.at nD gl1, f4.at nst gs1, (S2.keep s3).ne hc3, ?_, upd_same, hb.appS bb.1, by rw [List.length_append]; omega, by rw [List.length_append]; omega, fun v hv => (hr1 v hv).fx f4⟩
      exact Fx.freeS ((f1.trans f2).trans (Same.but s3)) (S2.keep s3) hc3
    · have base : N [some (.ref r), some (.ref D), none, some (.ref st), some (.int far), some (.ref p), some (.ref cd)] H1 := key _ _ ⟨p, op, rfl, Fx.refl _ _, S1, np, gp, ok⟩
      refine R.ifS (R.and' (R.test (R.op (R.cb (R.cons (R.var (R.nil (R.lenT (SqT.of gp) (R.c (R.eqI (R.bl ?_))))))))))) 
      rcases op_kind op ok with ⟨wd, t, ev, hop⟩ | ⟨wd, y, ev⟩ | hne
      · rw [ev] at gp ⊢
        refine R.iT (R.tB' (R.cb (R.cons (R.op (R.var (R.c (R.ixT1 (SqT.of gp) (R.cons (R.c (R.nil ?_)))))))))) 
        refine R.isiD (d := .int t) (b := true) (.int t) rfl (R.bl (R.iT ?_))
        refine R.asg (R.tup (R.cons (R.op (R.var (R.c (R.ixT0 (SqT.of gp) (R.cons (R.op (R.var (R.call (R.cons (R.var (R.cons (R.cb (R.cons (R.var (R.nil (R.lenLI (SqL.of gs1) (R.nil ?_)))))))))))))))))))
        refine ⟨r, _, rfl, S1, by omega, by omega, fun n H2 f2 S2 n0 n1 => ?_⟩
        refine R.ixLI (SqL.of (f2.at nst gs1)) n0 n1 fun at' _ hat => R.nil ⟨by k_caughtN0, fun p5 hp5 => R.gName ?_⟩
        have hat2 := hss at' hat
        obtain ⟨op', ev', ok'⟩ := hop at' (by omega)
        refine key _ _ ⟨p5, op', rfl, f2.trans (Same.but (same_upd hp5)), S2.keep (same_upd hp5), S2.ne hp5, by rw [ev']; exact upd_same, ok'⟩
      · have gp' := gp
        rw [ev] at gp' ⊢
        refine R.iT (R.tB' (R.cb (R.cons (R.op (R.var (R.c (R.ixT1 (SqT.of gp') (R.cons (R.c (R.nil ?_)))))))))) 
        refine R.isiD (d := .str y) (b := false) (.str y) rfl (R.bl (R.iF (R.next base)))
      · rw [decide_eq_false (by omega)]
        exact R.iF (R.iF (R.next base))
  · rintro σ H2 ⟨cd, ds, v5, rfl, f2, S2, gl2, gs2, ncd, hcd, gcd, hb, hd1, hd2, hr2⟩
    exact R.ret (R.var (q cd H2 ds hcd ncd f2 S2 gcd hb (by omega) (by omega)))
end
end Rl
namespace Rl
open PySem PySem.Spec PyProof.Rows L2 NdefX LamX
section
variable {K : PySem.W.Frag} {w : World} {vs : List V} {H H' H2 : Hp} {Q : VK} {E : XK} {σ : L2.St}
theorem vals_dp {xs : List V} : ∀ {op : Op}, DpAll K H xs op.data → xs = op.vals := by
  intro op h
  have key : ∀ {xs : List V} {ds : List PyData}, (∀ d ∈ ds, (∃ s, d = .str s) ∨ ∃ i, d = .int i) → DpAll K H xs ds → xs = ds.map flV := fun {xs ds} hf h => by
    induction ds generalizing xs with
    | nil =>
      cases h
      rfl
    | cons d ds ih =>
      cases h with
      | cons a t =>
        rw [ih (fun d hd => hf d (List.mem_cons_of_mem _ hd)) t]
        rcases hf d (List.mem_cons_self ..) with ⟨s, rfl⟩ | ⟨i, rfl⟩
        · rw [dp_str a]
          rfl
        · rw [dp_int a]
          rfl
  refine key (fun d hd => ?_) h
  cases op <;> simp only [Op.data, List.mem_cons, List.not_mem_nil, or_false] at hd <;> (rcases hd with rfl | rfl | rfl) <;> first | exact .inl ⟨_, rfl⟩ | exact .inr ⟨_, rfl⟩
theorem pure_law_moved {F : Prop} (_ : F) (h : sp_law_moved K w vs H Q E) : t_law_moved K w { nx := fun _ H' => Q .non H', rt := Q } (start N_law_moved vs) H := by
  obtain ⟨p, ns, far, rfl, gp, hb, hl, f1, f12, hT, q0, q1⟩ := h
  unfold t_law_moved
  refine R.seq (R.asg (R.cb (R.cons (R.var (R.nil (R.listL (SqL.of gp) fun D hD => R.gName ?_))))))
  have s1 := same_upd (o := .lst (ns.map V.int)) hD
  have gD1 : (upd H D (.lst (ns.map V.int))) D = some (.lst (ns.map V.int)) := upd_same
  have T1 := TabsN.same hT s1
  generalize upd H D (.lst (ns.map V.int)) = H1 at s1 gD1 T1 ⊢
  refine R.seq (R.asg (R.c (R.gName ?_)))
  refine R.seq (R.for' (R.seqIter (R.call (R.cons (R.var (R.nil ⟨.ref p, ns, rfl, SqL.code (SqL.of (s1 _ _ gp)), hb, by omega, T1, fun pf H2 xs L x2 T2 npf gpf dx hL => ?_⟩))))))
  have gD2 : H2 D = some (.lst (ns.map V.int)) := x2 _ _ gD1 (fun _ z => nomatch z)
  have npfD : pf ≠ D := fun z => by
    rw [z, noT_get gD1 (fun _ y => nomatch y)] at npf
    cases npf
  have x02 : ExtN H H2 := (ExtN.ofSame s1).trans x2
  have xB : ExtN H (but D H2) := fun b o e n => but_get (ne_of_none e hD) (x02 b o e n)
  have hDn : noT H D = none := by
    unfold noT
    rw [hD]
  have lx := DpAll.length dx
  rw [List.length_map] at lx
  refine R.forL (xs := xs) (fun i σ H' => ∃ (last : Int) (ds : List Int) (v4 v5 : Option V), σ = [some (.ref p), some (.int (far : Nat)), some (.ref D), some (.int last), v4, v5] ∧ Same (but D H2) H' ∧ TabsN (NT K) H' ∧ H' D = some (.lst (ds.map V.int)) ∧ MvI ns L ds far i last) (SqL.of gpf)
    ⟨0, ns, _, _, rfl, but_same, T2, gD2, MvI.start hb⟩ (fun i σ H' _ ⟨_, _, _, _, _, s, _⟩ => SqL.of (s _ _ (but_get npfD gpf))) ?_ ?_
  · rintro i x σ H3 hx hi ⟨last, ds, v4, v5, rfl, s3, T3, gD3, M⟩
    have x03 : ExtN H H3 := xB.trans (ExtN.ofSame s3)
    obtain ⟨d, hd, dv⟩ := DpAll.get dx hx
    rw [List.getElem?_map] at hd
    obtain ⟨a, ha, rfl⟩ := Option.map_eq_some_iff.mp hd
    have dv3 : Dp K H3 x (rowE ns a) := Dp.mono s3 (Dp.off gD2 (nl_rowE ns a) dv)
    rw [rowE_eq] at dv3
    obtain ⟨t, us, rfl, ht, hu⟩ := dp_tup dv3
    obtain ⟨v, rfl, dr⟩ : ∃ v, us = [.int a, v] ∧ Dp K H3 v (rowO ns a) := by
      cases hu with
      | cons u0 hu =>
      cases hu with
      | cons u1 hu =>
      cases hu
      exact ⟨_, by rw [dp_int u0], u1⟩
    refine R.gPairT ht ?_
    cases hr : rowAt ns a with
    | none =>
      unfold rowO at dr
      rw [hr] at dr
      obtain rfl := dp_none dr
      exact R.seq (R.ifS (R.or' (R.test (R.op (R.var (R.c (R.isNn (R.bl (R.iT (R.iT (R.ret (R.c (q0 _ x03 T3)))))))))))))
    | some lm =>
      obtain ⟨l, m⟩ := lm
      unfold rowO at dr
      rw [hr] at dr
      obtain ⟨tr, zs, rfl, gtr, dz⟩ := dp_tup dr
      refine R.seq (R.ifS (R.or' (R.test (R.op (R.var (R.c (R.isNr (R.bl (R.iF (R.test (R.op (R.var (R.var (R.ltI (R.bl (R.iD (fun _ => R.ret (R.c (q0 _ x03 T3))) fun hla => R.next ?_)))))))))))))))) 
      obtain ⟨op, rfl, ok⟩ := row_op hb hr
      obtain rfl := vals_dp dz
      refine R.seq (R.asg (R.op (R.var (R.cb (R.cons (R.call (R.cons (R.var (R.nil ⟨tr, op, rfl, gtr, ok, fun lb H4 s4 nlb glb => R.nil (R.lenLI (SqL.of glb) (R.addI (R.gName ?_)))⟩)))))))))
      have s34 := s3.trans s4
      have T4 := TabsN.same T3 s4
      have gD4 := s4 _ _ gD3
      have gt4 := SqT.mono s4 gtr
      have x04 : ExtN H H4 := xB.trans (ExtN.ofSame s34)
      obtain ⟨h0, b, wd, sh, hb', hde, hc⟩ := row_parts hr
      have hbb := hb b (List.mem_of_getElem? hb')
      have tw := tgt_sh hbb hde
      have hm : (op.bytes.length : Int) = m ∧ ∃ n, op.data = .str wd :: restD b n sh ∧ (sh = .n → 0 ≤ n ∧ n < 256) := by
        rcases hc with ⟨hn, rfl, n, h2, e⟩ | ⟨hn, rfl, e⟩
        · refine ⟨by rw [op_len e, hn]; rfl, n, e, fun _ => hb n (List.mem_of_getElem? h2)⟩
        · refine ⟨by rw [op_len e, hn]; rfl, 0, e, fun z => by rw [z] at hn; cases hn⟩
      obtain ⟨hm, n, e, hn⟩ := hm
      rw [hm]
      have ev : op.vals = .str wd :: (restD b n sh).map flV := by
        unfold Op.vals
        rw [e]
        rfl
      rw [ev] at gt4
      have wo : wordOf op.data = wd := by rw [e]; rfl
      have plain : wd ∉ tgtT → MvI ns L ds far (i + 1) (a + m) := fun hw => M.plain ha hr (by omega) (by rw [wo]; exact hw)
      refine R.ifS (R.and' (R.test (R.op (R.cb (R.cons (R.var (R.nil (R.lenT gt4 (R.c (R.eqI (R.bl ?_)))))))))))
      have fin : wd ∉ tgtT → ∃ (last : Int) (ds : List Int) (v4 v5 : Option V), [some (V.ref p), some (.int (far : Nat)), some (.ref D), some (.int (a + m)), some (.int a), some (.ref tr)] = [some (.ref p), some (.int (far : Nat)), some (.ref D), some (.int last), v4, v5] ∧ Same (but D H2) H4 ∧ TabsN (NT K) H4 ∧ H4 D = some (.lst (ds.map V.int)) ∧ MvI ns L ds far (i + 1) last := fun hw => ⟨_, ds, _, _, rfl, s34, T4, gD4, plain hw⟩
      cases sh with
      | e => exact R.iF (R.iF (R.next (fin fun z => nomatch tw.mp z)))
      | rs => exact R.iF (R.iF (R.next (fin fun z => nomatch tw.mp z)))
      | rn => exact R.iF (R.iF (R.next (fin fun z => nomatch tw.mp z)))
      | r =>
        refine R.iT (R.tB' (R.cb (R.cons (R.op (R.var (R.c (R.ixT1 gt4 (R.cons (R.c (R.nil ?_))))))))))
        exact R.isiD (d := .str (boxR b)) (b := false) (.str _) rfl (R.bl (R.iF (R.next (fin fun z => nomatch tw.mp z))))
      | n =>
        have n2 := hn rfl
        refine R.iT (R.tB' (R.cb (R.cons (R.op (R.var (R.c (R.ixT1 gt4 (R.cons (R.c (R.nil ?_))))))))))
        refine R.isiD (d := .int n) (b := true) (.int _) rfl (R.bl (R.iT ?_))
        refine R.seq (R.ifS (R.test (R.op (R.op (R.op (R.var (R.c (R.ixT1 gt4 (R.var (R.addI (R.c (R.gtI (R.bl (R.iD (fun _ => R.ret (R.c (q0 _ x04 T4))) fun hg => R.next ?_))))))))))))))
        have hr' : rowAt ns a = some ([.str wd, .int n], m) := by
          rw [hr, e]
          rfl
        have J := M.jump hb ha hr' (by omega) (by omega)
        have ra := row_range hr
        refine R.asg (R.op (R.op (R.var (R.c (R.ixT1 gt4 (R.var (R.addI (R.gSub (R.var (R.op (R.var (R.c (R.addI (R.setLI gD4 ?_ ?_ ?_))))))))))))))
        · omega
        · have : ds.length = ns.length := M.len
          have : m = 2 := by
            rcases hc with ⟨_, z, _⟩ | ⟨z, _, _⟩
            · exact z
            · cases z
          omega
        · exact ⟨_, _, _, _, rfl, Same.mut but_none s34, TabsN.mut T4 gD4, upd_same, J⟩
  rintro σ H3 ⟨last, ds, v4, v5, rfl, s3, T3, gD3, M⟩
  have x03 : ExtN H H3 := xB.trans (ExtN.ofSame s3)
  rw [lx] at M
  refine R.ret (R.op (R.op (R.lst (R.cons (R.c (R.nil ⟨by k_caughtN0, fun l2 h2 => R.var (R.rep (i := ((far : Nat) : Int)) upd_same (by omega) (by omega) ?_ fun l3 h3 => R.var ?_)⟩))))))
  · show 1 * _ ≤ _
    exact Nat.le_trans (m := 12) (by omega) (by decide)
  have s4 := same_upd (o := .lst [V.int 2]) h2
  have s5 := same_upd (o := .lst (List.replicate ((far : Nat) : Int).toNat [V.int 2]).flatten) h3
  have er : (List.replicate ((far : Nat) : Int).toNat [V.int 2]).flatten = (List.replicate far (2 : Int)).map V.int := by
    rw [rep_one, Int.toNat_natCast, List.map_replicate]
  have ld := M.len
  refine R.catI (xs := List.replicate far 2) (ys := ds) (by rw [← er]; exact upd_same) (s5 _ _ (s4 _ _ gD3)) ?_ fun l4 h4 => ?_
  · rw [List.length_replicate]
    exact Nat.le_trans (m := 1000) (by omega) (by decide)
  have s6 := same_upd (o := .lst ((List.replicate far 2 ++ ds).map V.int)) h4
  have s46 := s4.trans (s5.trans s6)
  exact q1 l4 _ _ (x03.trans (ExtN.ofSame s46)) (TabsN.same T3 s46) upd_same (M.done hL)
end
end Rl
namespace Rl
open PySem PySem.Spec PyProof.Rows L2 NdefX LamX
/-- a number and a list of numbers -/
def prE (a : Int) (r : List Int) : PyData := .tuple [.int a, .list (r.map PyData.int)]
theorem lay_ints39 (L : List Int) : PyData.canLayAll0 (L.map PyData.int) = true ∧ PyData.depthAll (L.map PyData.int) = 0 := by
  induction L with
  | nil => simp only [List.map_nil, PyData.canLayAll0, PyData.depthAll, and_self]
  | cons a r ih => simp only [List.map_cons, PyData.canLayAll0, PyData.canLay0, PyData.depthAll, PyData.depth, ih, Bool.and_self, Nat.max_self, and_self]
theorem lay_pr : ∀ ps : List (Int × List Int), PyData.canLayAll0 (ps.map fun p => prE p.1 p.2) = true ∧ PyData.depthAll (ps.map fun p => prE p.1 p.2) ≤ 2
  | [] => by simp [PyData.canLayAll0, PyData.depthAll]
  | p :: ps => by
    obtain ⟨h1, h2⟩ := lay_ints39 p.2
    obtain ⟨i1, i2⟩ := lay_pr ps
    simp only [List.map_cons, prE, PyData.canLayAll0, PyData.canLay0, PyData.depthAll, PyData.depth, h1, h2, Bool.and_self, Bool.true_and] at i1 i2 ⊢
    exact ⟨i1, by omega⟩
theorem shaped_pr (ps : List (Int × List Int)) : SeqAt.shaped (.list (ps.map fun p => prE p.1 p.2)) = true := by
  obtain ⟨h1, h2⟩ := lay_pr ps
  unfold SeqAt.shaped
  simp only [PyData.canLay0, PyData.depth, h1, Bool.true_and]
  exact decide_eq_true (by omega)
theorem dp_of39 {K : PySem.W.Frag} {H : Hp} : ∀ {xs : List V} {ds : List PyData}, xs.length = ds.length → (∀ (j : Nat) (x : V) (d : PyData), xs[j]? = some x → ds[j]? = some d → Dp K H x d) → DpAll K H xs ds
  | [], [], _, _ => .nil
  | [], _ :: _, h, _ => by simp at h
  | _ :: _, [], h, _ => by simp at h
  | x :: xs, d :: ds, h, f => .cons (f 0 x d rfl rfl) (dp_of39 (by simpa using h) fun j y e h1 h2 => f (j + 1) y e (by simpa using h1) (by simpa using h2))
theorem dpAll_app39 {K : PySem.W.Frag} {H : Hp} : ∀ {xs ys : List V} {ds es : List PyData}, DpAll K H xs ds → DpAll K H ys es → DpAll K H (xs ++ ys) (ds ++ es)
  | _, _, _, _, .nil, h2 => h2
  | _, _, _, _, .cons a t, h2 => .cons a (dpAll_app39 t h2)
section
variable {K : PySem.W.Frag} {w : World} {vs : List V} {H H' H2 : Hp} {Q : VK} {E : XK} {σ : L2.St}
theorem LedI.dp {H0 : Hp} {p : Addr} {xs : List V} {ns S : List Int} {e : Int} (I : LedI H0 H p xs ns e S) : DpAll K H xs (S.map fun k => prE k (ldL (goL ns) e S k)) := by
  obtain ⟨ad, lx, hx, hv, _⟩ := I
  refine dp_of39 (by rw [lx, List.length_map]) fun j x d h1 h2 => ?_
  obtain ⟨q, k, h3, rfl, h4, _⟩ := hx j x h1
  rw [List.getElem?_map, h3] at h2
  cases Option.some.inj h2
  exact .tup (SqT.of h4) (.cons (.int _) (.cons (SqL.ints (SqL.of (hv k (List.mem_of_getElem? h3)).1)) .nil))
theorem RgI.dp {H0 : Hp} {p : Addr} {xs : List V} {f : Int → List Int} {S : List Int} {e : Int} (I : RgI H0 H p xs f e S) : DpAll K H xs ((rgH f e S).map fun k => prE k (rgL f e S k)) := by
  obtain ⟨lx, hx⟩ := I
  refine dp_of39 (by rw [lx, List.length_map]) fun j x d h1 h2 => ?_
  obtain ⟨q, l, k, h3, rfl, h4, _, h5, _⟩ := hx j x h1
  rw [List.getElem?_map, h3] at h2
  cases Option.some.inj h2
  exact .tup (SqT.of h4) (.cons (.int _) (.cons (SqL.ints (SqL.of h5)) .nil))
theorem ways_pts {ns S : List Int} {e : Int} (hb : By ns) (hl : ns.length ≤ 1000) (he : FewG e) (hS : PtS ns e S) : Ways S (goL ns) := by
  refine ⟨hS.1.imp fun z => Int.ne_of_lt z, fun k hk => ?_, fun k hk x hx => (hS.2 x).mpr (((hS.2 k).mp hk).on hx), fun k _ => Nat.le_trans (goL_two ns k) (by decide)⟩
  exact rch_in ((hS.2 k).mp hk) he fun x y h => nxG_fewG hb hl (mem_goN.mp h)
/-- [x + far for x in a list] -/
theorem lcOn {a : Addr} {L : List Int} {far : Int} {i j : Nat} (ha : H a = some (.lst (L.map V.int))) (hl : L.length < sizeLine) (hw : ∀ x, wipe ((wipe σ [j]).set j (some x)) [j] = wipe σ [j]) (hj : ∀ x, ((wipe σ [j]).set j (some x))[j]? = some (some x)) (hi : ∀ x, ((wipe σ [j]).set j (some x))[i]? = some (some (.int far)))
    (q : ∀ D H', H D = none → Same H H' → H' D = some (.lst ((L.map (· + far)).map V.int)) → Q (.ref D) H') :
    (∃ b, V.ref a = .ref b ∧ (∃ xs, SqL K H b xs) ∧ ∀ D, H D = none → R.LcLoop (Itl K b) (L2.gName j) tYes (tOp (rAddA K) (tVar j) (tVar i)) [j] σ D H Q) ∨ (∃ b, V.ref a = .ref b ∧ (∃ xs, SqT K H b xs) ∧ ∀ D, H D = none → R.LcLoop (Itt K b) (L2.gName j) tYes (tOp (rAddA K) (tVar j) (tVar i)) [j] σ D H Q) := by
  refine R.lcFMI (fun _ => true) (· + far) (SqL.of ha) hl hw (fun x H' _ _ QB qb => R.yes qb) (fun x H' _ _ _ Q' q' => R.op (R.var (R.var (R.addI q') (hi _)) (hj _))) fun D H' hD s g => q D H' hD s ?_
  rwa [List.filter_eq_self.mpr fun _ _ => rfl] at g
theorem few0 : FewG 0 := ⟨by decide, by decide⟩
theorem eqOpt {a b : Option Int} (h : a = b) (q : Q (.bl true) H) : rEqA K (optV a) (optV b) H Q := by
  subst h
  cases a with
  | none =>
    refine R.eqD .non .non (by simp [SeqAt.shaped, PyData.canLay0, PyData.depth]) (by simp [SeqAt.shaped, PyData.canLay0, PyData.depth]) ?_
    rw [show PyData.eqv .none .none = true by simp only [PyData.eqv]]
    exact q
  | some i => exact R.eqIx q
theorem pure_law_right {F : Prop} (_ : F) (h : sp_law_right K w vs H Q E) : t_law_right K w { nx := fun _ H' => Q .non H', rt := Q } (start N_law_right vs) H := by
  obtain ⟨p, ns, far, rfl, gp, hb, hl, f1, f12, hT, q⟩ := h
  unfold t_law_right
  refine R.seq (R.asg (R.call (R.cons (R.var (R.cons (R.var (R.nil ⟨p, ns, far, rfl, gp, hb, hl, f1, f12, hT, fun H1 x1 T1 => R.gName ?_, fun o H1 M x1 T1 go hM => R.gName ?_⟩)))))))
  · exact R.seq (R.ifS (R.test (R.op (R.var (R.c (R.isNn (R.bl (R.iT (R.ret (R.c (q _ x1 T1)))))))))))
  refine R.seq (R.ifS (R.test (R.op (R.var (R.c (R.isNr (R.bl (R.iF (R.next ?_)))))))))
  have gp1 : H1 p = some (.lst (ns.map V.int)) := x1 _ _ gp (fun _ z => nomatch z)
  have q1 : ∀ H', Same H1 H' → Q (.bl true) H' := fun H' s => q H' (x1.trans (ExtN.ofSame s)) (TabsN.same T1 s)
  clear q x1 T1 hT gp
  have I := hM.iso hb (by omega) f1
  have hbM : By M := hM.1
  have hlM : M.length ≤ 1000 := by
    have := hM.2.1
    omega
  -- the rows ahead
  refine R.seq (R.asg (R.lstRg (R.rg1 (R.var ⟨(far : Nat), rfl, RgOk.of_le (by omega) (by omega) (by omega) (by omega), fun la hla => R.gName ?_⟩))))
  have er : R.rgI 0 (far : Nat) = upTo far := by
    unfold R.rgI upTo
    rw [show (((far : Nat) : Int) - 0).toNat = far by omega]
    refine List.map_congr_left fun i _ => ?_
    omega
  rw [er]
  have lu : (upTo far).length = far := by unfold upTo; rw [List.length_map, List.length_range]
  have s2 := same_upd (o := .lst ((upTo far).map V.int)) hla
  have ga2 : (upd H1 la (.lst ((upTo far).map V.int))) la = some (.lst ((upTo far).map V.int)) := upd_same
  have gp2 := s2 _ _ gp1
  have go2 := s2 _ _ go
  generalize upd H1 la (.lst ((upTo far).map V.int)) = H2 at s2 ga2 gp2 go2 ⊢
  -- what leads over them
  refine R.seq (R.asg (R.lc (R.seqIter (R.var (.inl ⟨la, rfl, ⟨_, SqL.of ga2⟩, ?_⟩)))))
  refine lcDp (K := K) (walk_list (a := la) (xs := (upTo far).map V.int)) (fun i => prE i ((upTo far).take (i + 1))) (by rw [List.length_map, lu]; exact Nat.lt_of_le_of_lt f12 (by decide)) (fun H' e => SqL.of (e _ _ ga2)) ?_ ?_
  · rintro D i x H3 H' Q' hD hi e3 ⟨ys, hy⟩ ⟨rfl, hx⟩ key
    rw [List.length_map, lu] at hi
    have xi : x = V.int (i : Nat) := by
      rw [List.getElem?_map] at hx
      unfold upTo at hx
      rw [List.getElem?_map, List.getElem?_range hi] at hx
      exact (Option.some.inj hx).symm
    subst xi
    refine R.gName ⟨rfl, R.tup (R.cons (R.var (R.cons (R.sl (R.var (R.noPart (R.part (R.op (R.var (R.c (R.addI (R.exI (R.slToI (SqL.of (e3 _ _ ga2)) ?_ fun l hl3 => R.nil ⟨by k_caughtN0, fun t ht => ?_⟩)))))))))))))⟩
    · omega
    have s4 := (same_upd (o := .lst (((upTo far).take (((i : Nat) : Int) + 1).toNat).map V.int)) hl3).trans (same_upd (o := .tup [V.int (i : Nat), .ref l]) ht)
    have nl : l ≠ D := fun z => by rw [z, hy] at hl3; cases hl3
    have nt : t ≠ D := fun z => by
      have := same_upd (o := .lst (((upTo far).take (((i : Nat) : Int) + 1).toNat).map V.int)) hl3 _ _ hy
      rw [z, this] at ht
      cases ht
    refine key _ _ s4 (.tup (SqT.of (but_get nt upd_same)) (.cons (.int _) (.cons (SqL.ints (SqL.of (but_get nl ?_))) .nil)))
    rw [show (upTo far).take (i + 1) = (upTo far).take (((i : Nat) : Int) + 1).toNat by rw [show (((i : Nat) : Int) + 1).toNat = i + 1 by omega]]
    exact same_upd ht _ _ upd_same
  intro D1 H3 xs1 hD1 s3 gD1 dD1
  rw [List.length_map, lu] at dD1
  have dd1 : DpAll K H3 xs1 ((List.range far).map fun i => prE (i : Nat) ((upTo far).take (i + 1))) := DpAll.mono but_same dD1
  clear dD1
  refine R.gName ?_
  have s13 := s2.trans s3
  have ga3 := s3 _ _ ga2
  have gp3 := s3 _ _ gp2
  have go3 := s3 _ _ go2
  -- .. and over those further on
  refine R.seq (R.asg (R.op (R.var (R.lc (R.seqIter (R.call (R.cons (R.var (R.cons (R.c (R.nil ⟨.ref p, ns, 0, rfl, SqL.code (SqL.of gp3), hb, by omega, few0, fun pl H4 xs S s4 npl gpl hS J => ?_⟩)))))))))))
  have hw := ways_pts hb (by omega) few0 hS
  have hA : AllS (goL ns) 0 S := hS.2
  have lS : S.length ≤ 1300 := hw.kl
  have dJ := J.dp (K := K)
  obtain ⟨ad, lx, hx, hv, _⟩ := J
  have ga4 := s4 _ _ ga3
  refine .inl ⟨pl, rfl, ⟨_, SqL.of gpl⟩, ?_⟩
  refine lcDp (K := K) (walk_list (a := pl) (xs := xs)) (fun i => prE (S.getD i 0 + far) (upTo far ++ (ldL (goL ns) 0 S (S.getD i 0)).map (· + (far : Int)))) (by rw [lx]; exact Nat.lt_of_le_of_lt lS (by decide)) (fun H' e => SqL.of (e _ _ gpl)) ?_ ?_
  · rintro D i x H5 H' Q' hD hi e5 ⟨ys, hy⟩ ⟨rfl, hxi⟩ key
    obtain ⟨t, k, hk, rfl, ht, _⟩ := hx i x hxi
    have eg : S.getD i 0 = k := by rw [List.getD_eq_getElem?_getD, hk]; rfl
    rw [eg] at key
    have kS := List.mem_of_getElem? hk
    have ll : (ldL (goL ns) 0 S k).length ≤ 1300 := Nat.le_trans ldL_len lS
    refine R.gPair (e5 _ _ ht) ⟨rfl, R.tup (R.cons (R.op (R.var (R.var (R.addI (R.cons (R.op (R.var (R.lc (R.seqIter (R.var ?_)))))))))))⟩
    refine lcOn (far := (far : Nat)) (e5 _ _ (hv k kS).1) (Nat.lt_of_le_of_lt ll (by decide)) (fun _ => rfl) (fun _ => rfl) (fun _ => rfl) fun C H6 hC s6 gC => ?_
    refine R.catI (xs := upTo far) (s6 _ _ (e5 _ _ ga4)) gC (Nat.le_trans (m := 2000) (by rw [lu, List.length_map]; omega) (by decide)) fun l hl7 => R.nil ⟨by k_caughtN0, fun u hu => ?_⟩
    have s7 := same_upd (o := .lst ((upTo far ++ (ldL (goL ns) 0 S k).map (· + (far : Int))).map V.int)) hl7
    have s8 := same_upd (o := .tup [V.int (k + (far : Nat)), .ref l]) hu
    have hy6 := s6 _ _ hy
    have nl : l ≠ D := fun z => by rw [z, hy6] at hl7; cases hl7
    have nu : u ≠ D := fun z => by
      rw [z, s7 _ _ hy6] at hu
      cases hu
    exact key _ _ (s6.trans (s7.trans s8)) (.tup (SqT.of (but_get nu upd_same)) (.cons (.int _) (.cons (SqL.ints (SqL.of (but_get nl (s8 _ _ upd_same)))) .nil)))
  intro D2 H5 xs2 hD2 s5 gD2 dD2
  rw [lx] at dD2
  have dd2 : DpAll K H5 xs2 (S.map fun k => prE (k + far) (upTo far ++ (ldL (goL ns) 0 S k).map (· + (far : Int)))) := by
    have := DpAll.mono but_same dD2
    rwa [range_map (fun k => prE (k + far) (upTo far ++ (ldL (goL ns) 0 S k).map (· + (far : Int)))) 0 S] at this
  clear dD2 hx hv
  have s35 := s4.trans s5
  have lx1 := DpAll.length dd1
  have lx2 := DpAll.length dd2
  rw [List.length_map, List.length_range] at lx1
  rw [List.length_map] at lx2
  refine R.cat (s35 _ _ gD1) gD2 (Nat.le_trans (m := 2000) (by omega) (by decide)) fun lD hlD => R.gName ?_
  have s6 := same_upd (o := .lst (xs1 ++ xs2)) hlD
  have s16 := s13.trans (s35.trans s6)
  have dd : Dp K (upd H5 lD (.lst (xs1 ++ xs2))) (.ref lD) (.list (((List.range far).map fun i => prE (i : Nat) ((upTo far).take (i + 1))) ++ S.map fun k => prE (k + far) (upTo far ++ (ldL (goL ns) 0 S k).map (· + (far : Int))))) :=
    .lst (SqL.of upd_same) (dpAll_app39 (DpAll.mono (s35.trans s6) dd1) (DpAll.mono s6 dd2))
  have go6 := (s35.trans s6) _ _ go3
  have gp6 := (s35.trans s6) _ _ gp3
  clear dd1 dd2 gD1 gD2 hlD
  generalize upd H5 lD (.lst (xs1 ++ xs2)) = H6 at s16 dd go6 gp6 ⊢
  clear s6 s35 s5 s4 gpl ga3 ga4 s13 s3 s2
  refine R.seq (R.ifS (R.test (R.op (R.call (R.cons (R.var (R.cons (R.c (R.nil ⟨.ref o, M, 0, rfl, SqL.code (SqL.of go6), hbM, hlM, few0, fun pm H7 xs7 T s7 npm gpm hT J7 => R.var ?_⟩)))))))))
  have hvT := ways_pts hbM hlM few0 hT
  have hB : AllS (goL M) 0 T := hT.2
  have rows := I.rows hS.1 hA hT.1 hB
  have eL : (T.map fun k => prE k (ldL (goL M) 0 T k)) = ((List.range far).map fun (i : Nat) => prE (i : Nat) ((upTo far).take (i + 1))) ++ S.map fun k => prE (k + far) (upTo far ++ (ldL (goL ns) 0 S k).map (· + (far : Int))) := by
    have e1 : ∀ L : List Int, L = T → (L.map fun k => prE k (ldL (goL M) 0 T k)) = (T.map fun k => prE k (ldL (goL M) 0 T k)) := fun L h => by rw [h]
    rw [← e1 _ rows.symm, List.map_append]
    congr 1
    · unfold upTo
      rw [List.map_map]
      refine List.map_congr_left fun i hi => ?_
      have hi := List.mem_range.mp hi
      show prE (i : Nat) (ldL (goL M) 0 T (i : Nat)) = _
      rw [I.ldU hA hT.1 hB (by omega) (by omega)]
      rfl
    · rw [List.map_map]
      refine List.map_congr_left fun k hk => ?_
      show prE (k + far) (ldL (goL M) 0 T (k + far)) = _
      rw [I.ldO hS.1 hA hT.1 hB hk]
  have d7 : Dp K H7 (.ref pm) (.list (T.map fun k => prE k (ldL (goL M) 0 T k))) := .lst (SqL.of gpm) J7.dp
  have sh7 : SeqAt.shaped (.list (T.map fun k => prE k (ldL (goL M) 0 T k))) = true := by
    have := shaped_pr (T.map fun k => (k, ldL (goL M) 0 T k))
    rw [List.map_map] at this
    exact this
  have dd7 := Dp.mono s7 dd
  rw [← eL] at dd7
  refine R.neD d7 dd7 sh7 sh7 ?_
  rw [SeqAt.eqv_refl _ (SeqAt.canLay_of_shaped sh7)]
  refine R.bl (R.iF (R.next ?_))
  have s17 := s16.trans s7
  have go7 := s7 _ _ go6
  have gp7 := s7 _ _ gp6
  clear d7 dd7 dd s16 s7 go6 gp6 gpm npm eL J7 xs7
  -- the rings
  refine R.seq (R.ifS (R.test (R.op (R.call (R.cons (R.var (R.cons (R.c (R.nil ⟨.ref o, M, 0, rfl, SqL.code (SqL.of go7), hbM, hlM, few0, fun pr H8 xs8 T2 s8 hT2 npr gpr J8 => ?_⟩)))))))))
  obtain rfl := hT2.uniq hT
  have d8 : Dp K H8 (.ref pr) (.list ((rgH (goL M) 0 T2).map fun k => prE k (rgL (goL M) 0 T2 k))) := .lst (SqL.of gpr) J8.dp
  refine R.lc (R.seqIter (R.call (R.cons (R.var (R.cons (R.c (R.nil ⟨.ref p, ns, 0, rfl, SqL.code (SqL.of (s8 _ _ gp7)), hb, by omega, few0, fun ps H9 xs9 S2 s9 hS2 nps gps J9 => ?_⟩)))))))
  obtain rfl := hS2.uniq hS
  obtain ⟨lx9, hx9⟩ := J9
  have lH : (rgH (goL ns) 0 S2).length ≤ 1300 := Nat.le_trans (List.length_filter_le _ _) lS
  refine .inl ⟨ps, rfl, ⟨_, SqL.of gps⟩, ?_⟩
  refine lcDp (K := K) (walk_list (a := ps) (xs := xs9)) (fun i => prE ((rgH (goL ns) 0 S2).getD i 0 + far) ((rgL (goL ns) 0 S2 ((rgH (goL ns) 0 S2).getD i 0)).map (· + (far : Int)))) (by rw [lx9]; exact Nat.lt_of_le_of_lt lH (by decide)) (fun H' e => SqL.of (e _ _ gps)) ?_ ?_
  · rintro D i x Ha H' Q' hD hi ea ⟨ys, hy⟩ ⟨rfl, hxi⟩ key
    obtain ⟨t, l, k, hk, rfl, ht, _, hlr, _⟩ := hx9 i x hxi
    have eg : (rgH (goL ns) 0 S2).getD i 0 = k := by rw [List.getD_eq_getElem?_getD, hk]; rfl
    rw [eg] at key
    have ll : (rgL (goL ns) 0 S2 k).length ≤ 1300 := Nat.le_trans (List.length_filter_le _ _) lS
    refine R.gPair (ea _ _ ht) ⟨rfl, R.tup (R.cons (R.op (R.var (R.var (R.addI (R.cons (R.lc (R.seqIter (R.var ?_)))))))))⟩
    refine lcOn (far := (far : Nat)) (ea _ _ hlr) (Nat.lt_of_le_of_lt ll (by decide)) (fun _ => rfl) (fun _ => rfl) (fun _ => rfl) fun C Hb hC sb gC => R.nil ⟨by k_caughtN0, fun u hu => ?_⟩
    have sc := same_upd (o := .tup [V.int (k + (far : Nat)), .ref C]) hu
    have hyb := sb _ _ hy
    have nC : C ≠ D := fun z => by rw [z, hy] at hC; cases hC
    have nu : u ≠ D := fun z => by rw [z, hyb] at hu; cases hu
    exact key _ _ (sb.trans sc) (.tup (SqT.of (but_get nu upd_same)) (.cons (.int _) (.cons (SqL.ints (SqL.of (but_get nC (sc _ _ gC)))) .nil)))
  intro D3 Ha xsa hD3 sa gD3 dD3
  rw [lx9] at dD3
  have da : Dp K Ha (.ref D3) (.list ((rgH (goL ns) 0 S2).map fun k => prE (k + far) ((rgL (goL ns) 0 S2 k).map (· + (far : Int))))) := by
    have := DpAll.mono but_same dD3
    rw [range_map (fun k => prE (k + far) ((rgL (goL ns) 0 S2 k).map (· + (far : Int)))) 0 (rgH (goL ns) 0 S2)] at this
    exact .lst (SqL.of gD3) this
  have eR : ((rgH (goL M) 0 T2).map fun k => prE k (rgL (goL M) 0 T2 k)) = (rgH (goL ns) 0 S2).map fun k => prE (k + far) ((rgL (goL ns) 0 S2 k).map (· + (far : Int))) := by
    rw [I.rgH hS.1 hA hw hT.1 hB hvT, List.map_map]
    refine List.map_congr_left fun k hk => ?_
    show prE (k + far) (rgL (goL M) 0 T2 (k + far)) = _
    rw [I.rgL hS.1 hA hw hT.1 hB hvT hk]
  have sh8 : SeqAt.shaped (.list ((rgH (goL M) 0 T2).map fun k => prE k (rgL (goL M) 0 T2 k))) = true := by
    have := shaped_pr ((rgH (goL M) 0 T2).map fun k => (k, rgL (goL M) 0 T2 k))
    rw [List.map_map] at this
    exact this
  rw [← eR] at da
  refine R.neD (Dp.mono (s9.trans sa) d8) da sh8 sh8 ?_
  rw [SeqAt.eqv_refl _ (SeqAt.canLay_of_shaped sh8)]
  refine R.bl (R.iF (R.next ?_))
  have s1a := s17.trans (s8.trans (s9.trans sa))
  have goa := (s8.trans (s9.trans sa)) _ _ go7
  have gpa := (s8.trans (s9.trans sa)) _ _ gp7
  clear da dD3 gD3 hx9 d8 J8 gpr npr
  -- what can't be led
  refine R.seq (R.asg (R.call (R.cons (R.var (R.cons (R.c (R.nil ⟨.ref p, ns, 0, rfl, SqL.code (SqL.of gpa), hb, by omega, few0, fun Hb S3 sb hS3 => R.gName ?_⟩)))))))
  obtain rfl := hS3.uniq hS
  refine R.ret (R.op (R.call (R.cons (R.var (R.cons (R.c (R.nil ⟨.ref o, M, 0, rfl, SqL.code (SqL.of (sb _ _ goa)), hbM, hlM, few0, fun Hc T3 sc hT3 => ?_⟩)))))))
  obtain rfl := hT3.uniq hT
  have en := I.nl hS.1 hA hT.1 hB
  have fin : Q (.bl true) Hc := q1 _ (s1a.trans (sb.trans sc))
  cases hn : nlS (goL ns) 0 S3 with
  | none =>
    rw [hn] at en
    exact R.ifE (R.test (R.op (R.var (R.c (R.isNn (R.bl (R.iT (R.c (eqOpt (b := none) en fin)))))))))
  | some b =>
    rw [hn] at en
    exact R.ifE (R.test (R.op (R.var (R.c (R.isNi (R.bl (R.iF (R.op (R.var (R.var (R.addI (eqOpt (b := some (b + far)) en fin))))))))))))
theorem pure_law {F : Prop} (_ : F) (h : sp_law K w vs H Q E) : t_law K w { nx := fun _ H' => Q .non H', rt := Q } (start N_law vs) H := by
  obtain ⟨s, xs, rfl, hs, hl, hT, q⟩ := h
  unfold t_law
  refine R.seq (R.asg (R.call (R.cons (R.var (R.nil ⟨s, xs, rfl, hs, hl, fun r H1 e1 nr S1 => R.gName ?_⟩)))))
  have T1 := TabsN.same hT e1
  refine R.seq (R.for' (R.rng1 (R.cons (R.op (R.c (R.cb (R.cons (R.cb (R.cons (R.var (R.nil (R.lenLI (SqL.mono e1 hs) (R.cons (R.c (R.nil (R.min2 (R.addI (R.nil (R.rng1v (by split <;> omega) (by split <;> omega) ?_)))))))))))))))))))
  refine R.forR (fun i σ H' => (∃ v2 v3, σ = [some (.ref s), some (.ref r), v2, v3]) ∧ Spr H' r ∧ TabsN (NT K) H') ⟨⟨_, _, rfl⟩, S1, T1⟩ ?_ fun σ H3 _ => R.ret (R.c (q _))
  clear T1 S1 nr e1
  rintro i σ H2 hi ⟨⟨v2, v3, rfl⟩, S2, T2⟩
  refine R.gName (R.seq (R.asg (R.call (R.cons (R.var (R.nil ⟨r, rfl, S2, fun p H3 ds zp np f3 S3 gp hb d1 d2 => R.gName ?_⟩))))))
  have T3 := TabsN.spr T2 S2 f3
  refine R.seq (R.joinS (fun σ H' => ∃ (p : Addr) (ds : List Int), σ = [some (.ref s), some (.ref r), some (.int (0 + (i : Nat))), some (.ref p)] ∧ Spr H' r ∧ TabsN (NT K) H' ∧ p ≠ r ∧ H' p = some (.lst (ds.map V.int)) ∧ By ds ∧ ds.length ≤ 190) ?_ fun N key => ?_)
  rotate_left
  · refine R.ifS (R.test (R.op (R.call (R.cons (R.var (R.cons (R.c (R.nil ⟨r, 2, rfl, S3, by decide, by decide, fun k H4 f4 S4 _ _ => R.c (R.eqI (R.bl (R.iD (fun _ => ?_) (fun _ => R.next (key _ _ ⟨p, ds, rfl, S4, TabsN.spr T3 S3 f4, np, f4.at np gp, hb, by omega⟩)))))⟩))))))))
    have T4 := TabsN.spr T3 S3 f4
    refine R.asg (R.op (R.call (R.cons (R.var (R.cons (R.lst (R.nil ⟨by k_caughtN0, fun l hl => R.nil ?_⟩)))))))
    have s5 := same_upd (o := .lst []) hl
    have S5 := S4.keep s5
    have T5 := TabsN.same T4 s5
    refine ⟨r, l, [], rfl, S5, S4.ne hl, upd_same, by decide, fun q' cd hd H6 t x xs2 zq zc zh ncr nch f6 S6 gq gc gh dh ok dp ln hx => R.c (R.ixT0 (SqT.of gq) (R.gName (key _ _ ⟨cd, _, rfl, S6, TabsN.spr T5 S5 f6, ncr, gc, ?_, ?_⟩)))⟩
    · intro y hy
      rw [List.nil_append] at hy
      rcases List.mem_append.mp hy with hy | hy
      · exact Tr.code_by ok (by
          have : ([] : List Int).length + t.len < 190 := ln
          show 0 + t.len < 256
          simp only [List.length_nil] at this
          omega) y hy
      · rw [List.mem_singleton.mp hy]
        omega
    · rw [List.nil_append, List.length_append, t.code_len]
      have : ([] : List Int).length + t.len < 190 := ln
      simp only [List.length_nil] at this
      show t.len + 1 ≤ 190
      omega
  clear S3 T3 gp f3 zp hb d1 d2 T2 S2
  rintro σ H3 ⟨p, ds, rfl, S3, T3, np, gp, hb, dl⟩
  refine R.ifS (R.not' (R.tB' (R.call (R.cons (R.var (R.cons (R.cb (R.cons (R.op (R.c (R.call (R.cons (R.var (R.cons (R.c (R.nil ?_))))))))))))))))
  refine ⟨r, 12, rfl, S3, by decide, by decide, fun k H4 f4 S4 k0 k1 => R.addI ?_⟩
  refine R.cons (R.op (R.c (R.cb (R.cons (R.var (R.nil (R.lenLI (SqL.of (f4.at np gp)) (R.subI (R.nil (R.min2 (R.nil ?_)))))))))))
  have T4 := TabsN.spr T3 S3 f4
  obtain ⟨far, hf, g1, g2⟩ : ∃ far : Nat, (if (200 : Int) - (ds.length : Int) < 1 + k then 200 - (ds.length : Int) else 1 + k) = (far : Nat) ∧ 1 ≤ far ∧ far ≤ 12 := ⟨(if (200 : Int) - (ds.length : Int) < 1 + k then 200 - (ds.length : Int) else 1 + k).toNat, by split <;> omega, by split <;> omega, by split <;> omega⟩
  rw [hf]
  exact ⟨p, ds, far, rfl, f4.at np gp, hb, by omega, g1, g2, T4, fun H5 x5 T5 => R.bl (R.iF (R.next ⟨⟨_, _, rfl⟩, S4.extN x5, T5⟩))⟩
end
end Rl
namespace Rl
open PySem PySem.Spec PyProof.Rows L2 NdefX LamX
/-! ## the walk of each def -/
abbrev s_short_row : Stmt := top 9
abbrev s_long_row : Stmt := top 10
abbrev s_row_at : Stmt := top 11
abbrev s_behind_and_target : Stmt := top 14
abbrev s_is_call : Stmt := top 16
abbrev s_goes_on : Stmt := top 15
abbrev s_all_from : Stmt := top 17
abbrev s_found_places : Stmt := top 18
abbrev s_found_rows : Stmt := top 19
abbrev s_ways_within : Stmt := top 21
abbrev s_come_to : Stmt := top 22
abbrev s_leaders : Stmt := top 23
abbrev s_led_over : Stmt := top 24
abbrev s_turns_back : Stmt := top 25
abbrev s_turned_away : Stmt := top 26
abbrev s_rings : Stmt := top 27
abbrev s_not_led : Stmt := top 28
abbrev s_law_spring : Stmt := top 30
abbrev s_law_draw : Stmt := top 31
abbrev s_law_bytes : Stmt := top 32
abbrev s_law_drawn_row : Stmt := top 33
abbrev s_law_tree : Stmt := top 35
abbrev s_law_if_laid : Stmt := top 36
abbrev s_law_loop_laid : Stmt := top 37
abbrev s_law_tree_laid : Stmt := top 38
abbrev s_law_made : Stmt := top 39
abbrev s_law_straight : Stmt := top 34
abbrev s_law_moved : Stmt := top 40
abbrev s_law_right : Stmt := top 41
abbrev s_law : Stmt := top 42

structure Bl (mg : Str → Option Value) : Prop where
  b_abs : mg "abs" = none
  b_any : mg "any" = none
  b_int : mg "int" = none
  b_isinstance : mg "isinstance" = none
  b_len : mg "len" = none
  b_list : mg "list" = none
  b_min : mg "min" = none
  b_range : mg "range" = none
  b_sorted : mg "sorted" = none
structure Cn (K : PySem.W.Frag) (mg : Str → Option Value) : Prop where
  c_ALONE : mg "ALONE" = some (.ref (He.ga K "ALONE"))
  c_BOXES : ∃ t, mg "BOXES" = some (.str "abcd" t)
  c_ENDS : mg "ENDS" = some (.ref (He.ga K "ENDS"))
  c_JUMPS : ∃ t, mg "JUMPS" = some (.int 14 t)
  c_SINGLE : mg "SINGLE" = some (.ref (He.ga K "SINGLE"))
  c_SINGLES : ∃ t, mg "SINGLES" = some (.int 15 t)
  c_TARGETS : mg "TARGETS" = some (.ref (He.ga K "TARGETS"))
  c_WORDS_OF_NUMBERED : mg "WORDS_OF_NUMBERED" = some (.ref (He.ga K "WORDS_OF_NUMBERED"))
  c_WORDS_OF_PAIRS : mg "WORDS_OF_PAIRS" = some (.ref (He.ga K "WORDS_OF_PAIRS"))

section
variable {P : Program} {w : World} {K : PySem.W.Frag} {mg : Str → Option Value} {base : Heap}
theorem sc_short_row : FnScope N_short_row ["first"] (defScope s_short_row) := ⟨rfl, rfl, rfl, by decide +kernel, rfl, by decide +kernel, by decide +kernel⟩
theorem cl_short_row (B : Bl mg) (C : Cn K mg) (F : FindC K w) {f : Addr} {fd : FuncData} (D : FnP K "short_row" s_short_row f fd) (hm : mg "short_row" = some (.ref f)) (hb : Binds K fd ["first"] []) : Cl P w K mg base 1 "short_row" (sp_short_row K w) :=
  cl_of D hm hb sc_short_row (fun vs H Q E h => len_short_row h) fun cdv A outer s H vs Q E hr h => ⟨t_short_row K w, PSs.nox (pss_cons (ps_par3 (i := 1) (j := 2) (l := 3) (by rfl) sc_short_row.nd rfl rfl rfl (by decide) (by decide) (by decide) rfl rfl rfl (pa_cons (pe_op op_shrA (pv 0) pe_int) (pa_cons (pe_ix ix_seq (pe_gcn rfl C.c_BOXES) (pe_op op_andA (pe_op op_shrA (pv 0) pe_int) pe_int) (fun _ _ => rfl)) (pa_cons (pe_op op_andA (pv 0) pe_int) pa_nil))) (by rfl))
      (pss_cons (ps_if (pt_cmpR op_ltA (pv 0) (pe_callB call_lenA (by rfl) B.b_len (by decide +kernel) (pa_cons (pe_glob rfl C.c_ALONE rfl) pa_nil)) (nomark _))
      (pss_one (ps_ret (pe_tup (pa_cons (pe_ix ix_seq (pe_glob rfl C.c_ALONE rfl) (pv 0) (fun _ _ => rfl)) pa_nil))))
      pss_nil)
      (pss_cons (ps_if (pt_cmpR (op_eqA hr.units) (pv 1) (pe_gcn rfl C.c_SINGLES) (nomark _))
      (pss_one (ps_ret (pe_tup (pa_cons (pe_ix ix_seq (pe_glob rfl C.c_SINGLE rfl) (pv 3) (fun _ _ => rfl)) (pa_cons (pv 2) pa_nil)))))
      pss_nil)
      (pss_cons (ps_if (pt_cmpR op_inKD (pv 1) (pe_glob rfl C.c_WORDS_OF_PAIRS rfl) rfl)
      (pss_one (ps_ret (pe_tup (pa_cons (pe_ix ix_KD (pe_glob rfl C.c_WORDS_OF_PAIRS rfl) (pv 1) (fun _ _ => rfl)) (pa_cons (pv 2) (pa_cons (pe_ix ix_seq (pe_gcn rfl C.c_BOXES) (pv 3) (fun _ _ => rfl)) pa_nil))))))
      pss_nil)
      (pss_one (ps_ret pe_non)))))), pure_short_row F.mach h⟩

theorem sc_long_row : FnScope N_long_row ["first", "n"] (defScope s_long_row) := ⟨rfl, rfl, rfl, by decide +kernel, rfl, by decide +kernel, by decide +kernel⟩
theorem cl_long_row (B : Bl mg) (C : Cn K mg) (F : FindC K w) {f : Addr} {fd : FuncData} (D : FnP K "long_row" s_long_row f fd) (hm : mg "long_row" = some (.ref f)) (hb : Binds K fd ["first", "n"] []) : Cl P w K mg base 1 "long_row" (sp_long_row K w) :=
  cl_of D hm hb sc_long_row (fun vs H Q E h => len_long_row h) fun cdv A outer s H vs Q E hr h => ⟨t_long_row K w, PSs.nox (pss_cons (ps_par3 (i := 2) (j := 3) (l := 4) (by rfl) sc_long_row.nd rfl rfl rfl (by decide) (by decide) (by decide) rfl rfl rfl (pa_cons (pe_op op_shrA (pv 0) pe_int) (pa_cons (pe_ix ix_seq (pe_gcn rfl C.c_BOXES) (pe_op op_andA (pe_op op_shrA (pv 0) pe_int) pe_int) (fun _ _ => rfl)) (pa_cons (pe_op op_andA (pv 0) pe_int) pa_nil))) (by rfl))
      (pss_cons (ps_if (PW.pt (pw_and (pt_cmpR (op_eqA hr.units) (pv 2) (pe_gcn rfl C.c_JUMPS) (nomark _)) (pw_and1 (pt_cmpR op_ltA (pv 4) (pe_callB call_lenA (by rfl) B.b_len (by decide +kernel) (pa_cons (pe_glob rfl C.c_TARGETS rfl) pa_nil)) (nomark _)))))
      (pss_one (ps_ret (pe_tup (pa_cons (pe_ix ix_seq (pe_glob rfl C.c_TARGETS rfl) (pv 4) (fun _ _ => rfl)) (pa_cons (pv 1) pa_nil)))))
      pss_nil)
      (pss_cons (ps_if (PW.pt (pw_and (pt_cmpR op_inKD (pv 2) (pe_glob rfl C.c_WORDS_OF_NUMBERED rfl) rfl) (pw_and1 (pt_cmpR (op_eqA hr.units) (pe_op op_andA (pv 4) pe_int) pe_int (nomark _)))))
      (pss_one (ps_ret (pe_tup (pa_cons (pe_ix ix_KD (pe_glob rfl C.c_WORDS_OF_NUMBERED rfl) (pv 2) (fun _ _ => rfl)) (pa_cons (pv 3) (pa_cons (pv 1) pa_nil))))))
      pss_nil)
      (pss_one (ps_ret pe_non))))), pure_long_row F.mach h⟩

theorem sc_row_at : FnScope N_row_at ["code", "address"] (defScope s_row_at) := ⟨rfl, rfl, rfl, by decide +kernel, rfl, by decide +kernel, by decide +kernel⟩
theorem cl_row_at (B : Bl mg) (C : Cn K mg) (F : FindC K w) (c_short_row : Cl P w K mg base 1 "short_row" (sp_short_row K w)) (c_long_row : Cl P w K mg base 1 "long_row" (sp_long_row K w)) {f : Addr} {fd : FuncData} (D : FnP K "row_at" s_row_at f fd) (hm : mg "row_at" = some (.ref f)) (hb : Binds K fd ["code", "address"] []) : Cl P w K mg base 2 "row_at" (sp_row_at K w) :=
  cl_of D hm hb sc_row_at (fun vs H Q E h => len_row_at h) fun cdv A outer s H vs Q E hr h => ⟨t_row_at K w, PSs.nox (pss_cons (ps_if (pt_not (pt_chain op_leA op_ltA pe_int (pv 1) (pe_callB call_lenA (by rfl) B.b_len (by decide +kernel) (pa_cons (pv 0) pa_nil))))
      (pss_one (ps_ret pe_non))
      pss_nil)
      (pss_cons (ps_set (i := 2) sc_row_at.nd rfl (.inl rfl) (pe_cl c_short_row hr (by decide) rfl (pa_cons (pe_ix ix_seq (pv 0) (pv 1) (fun _ _ => rfl)) pa_nil)))
      (pss_cons (ps_if (pt_cmpR op_notN1 (pv 2) pe_non (nomark _))
      (pss_one (ps_ret (pe_tup (pa_cons (pv 2) (pa_cons pe_int pa_nil)))))
      pss_nil)
      (pss_cons (ps_set (i := 2) sc_row_at.nd rfl (.inl rfl) (pe_ifExp (pt_cmpR op_ltA (pe_op op_addA (pv 1) pe_int) (pe_callB call_lenA (by rfl) B.b_len (by decide +kernel) (pa_cons (pv 0) pa_nil)) (nomark _)) (pe_cl c_long_row hr (by decide) rfl (pa_cons (pe_ix ix_seq (pv 0) (pv 1) (fun _ _ => rfl)) (pa_cons (pe_ix ix_seq (pv 0) (pe_op op_addA (pv 1) pe_int) (fun _ _ => rfl)) pa_nil))) pe_non))
      (pss_one (ps_ret (pe_ifExp (pt_cmpR op_notN1 (pv 2) pe_non (nomark _)) (pe_tup (pa_cons (pv 2) (pa_cons pe_int pa_nil))) pe_non))))))), pure_row_at F.mach h⟩

theorem sc_behind_and_target : FnScope N_behind_and_target ["code", "address"] (defScope s_behind_and_target) := ⟨rfl, rfl, rfl, by decide +kernel, rfl, by decide +kernel, by decide +kernel⟩
theorem cl_behind_and_target (B : Bl mg) (C : Cn K mg) (F : FindC K w) (c_row_at : Cl P w K mg base 2 "row_at" (sp_row_at K w)) {f : Addr} {fd : FuncData} (D : FnP K "behind_and_target" s_behind_and_target f fd) (hm : mg "behind_and_target" = some (.ref f)) (hb : Binds K fd ["code", "address"] []) : Cl P w K mg base 3 "behind_and_target" (sp_behind_and_target K w) :=
  cl_of D hm hb sc_behind_and_target (fun vs H Q E h => len_behind_and_target h) fun cdv A outer s H vs Q E hr h => ⟨t_behind_and_target K w, PSs.nox (pss_cons (ps_set (i := 2) sc_behind_and_target.nd rfl (.inl rfl) (pe_cl c_row_at hr (by decide) rfl (pa_cons (pv 0) (pa_cons (pv 1) pa_nil))))
      (pss_cons (ps_if (pt_cmpR op_isN1 (pv 2) pe_non (nomark _))
      (pss_one (ps_ret (pe_tup (pa_cons pe_non (pa_cons pe_non pa_nil)))))
      pss_nil)
      (pss_cons (ps_asg (pv 2) (pg_tup rfl (pgs_cons (pg_name (i := 3) sc_behind_and_target.nd rfl (.inl rfl)) (pgs_cons (pg_name (i := 4) sc_behind_and_target.nd rfl (.inl rfl)) pgs_nil))))
      (pss_cons (ps_set (i := 5) sc_behind_and_target.nd rfl (.inl rfl) (pe_ifExp (pt_cmpR op_in_seq (pe_ix ix_seq (pv 3) pe_int (fun _ _ => rfl)) (pe_glob rfl C.c_ENDS rfl) rfl) pe_non (pe_op op_addA (pv 1) (pv 4))))
      (pss_one (ps_ret (pe_tup (pa_cons (pv 5) (pa_cons (pe_ifExp (pt_cmpR op_in_seq (pe_ix ix_seq (pv 3) pe_int (fun _ _ => rfl)) (pe_glob rfl C.c_TARGETS rfl) rfl) (pe_ix ix_seq (pv 3) pe_int (fun _ _ => rfl)) pe_non) pa_nil))))))))), pure_behind_and_target F h⟩

theorem sc_is_call : FnScope N_is_call ["code", "address"] (defScope s_is_call) := ⟨rfl, rfl, rfl, by decide +kernel, rfl, by decide +kernel, by decide +kernel⟩
theorem cl_is_call (B : Bl mg) (C : Cn K mg) (F : FindC K w) (c_row_at : Cl P w K mg base 2 "row_at" (sp_row_at K w)) {f : Addr} {fd : FuncData} (D : FnP K "is_call" s_is_call f fd) (hm : mg "is_call" = some (.ref f)) (hb : Binds K fd ["code", "address"] []) : Cl P w K mg base 3 "is_call" (sp_is_call K w) :=
  cl_of D hm hb sc_is_call (fun vs H Q E h => len_is_call h) fun cdv A outer s H vs Q E hr h => ⟨t_is_call K w, PSs.nox (pss_cons (ps_set (i := 2) sc_is_call.nd rfl (.inl rfl) (pe_cl c_row_at hr (by decide) rfl (pa_cons (pv 0) (pa_cons (pv 1) pa_nil))))
      (pss_one (ps_ret (L2.pe_and (pe_cmpR op_notN1 (pv 2) pe_non (nomark _)) (pe_one (pe_cmpR (op_eqA hr.units) (pe_ix ix_seq (pe_ix ix_seq (pv 2) pe_int (fun _ _ => rfl)) pe_int (fun _ _ => rfl)) pe_str (nomark _))))))), pure_is_call F h⟩

theorem sc_goes_on : FnScope N_goes_on ["code", "address"] (defScope s_goes_on) := ⟨rfl, rfl, rfl, by decide +kernel, rfl, by decide +kernel, by decide +kernel⟩
theorem cl_goes_on (B : Bl mg) (C : Cn K mg) (F : FindC K w) (c_behind_and_target : Cl P w K mg base 3 "behind_and_target" (sp_behind_and_target K w)) (c_is_call : Cl P w K mg base 3 "is_call" (sp_is_call K w)) {f : Addr} {fd : FuncData} (D : FnP K "goes_on" s_goes_on f fd) (hm : mg "goes_on" = some (.ref f)) (hb : Binds K fd ["code", "address"] []) : Cl P w K mg base 4 "goes_on" (sp_goes_on K w) :=
  cl_of D hm hb sc_goes_on (fun vs H Q E h => len_goes_on h) fun cdv A outer s H vs Q E hr h => ⟨t_goes_on K w, PSs.nox (pss_cons (ps_asg (pe_cl c_behind_and_target hr (by decide) rfl (pa_cons (pv 0) (pa_cons (pv 1) pa_nil))) (pg_tup rfl (pgs_cons (pg_name (i := 2) sc_goes_on.nd rfl (.inl rfl)) (pgs_cons (pg_name (i := 3) sc_goes_on.nd rfl (.inl rfl)) pgs_nil))))
      (pss_cons (ps_if (pt_val (pe_cl c_is_call hr (by decide) rfl (pa_cons (pv 0) (pa_cons (pv 1) pa_nil))) (by intro _; rfl))
      (pss_one (ps_set (i := 3) sc_goes_on.nd rfl (.inl rfl) pe_non))
      pss_nil)
      (pss_one (ps_ret (pe_callB (cr_sortedSet rfl) (by rfl) B.b_sorted (by decide +kernel) (pa_cons (pe_scI (own := [("place", 4)]) (g := (gName 4)) rfl sc_goes_on.nd (pi_seq (pe_tup (pa_cons (pv 2) (pa_cons (pv 3) pa_nil)))) (blkOk_by (by kernel_rfl)) (fun _ _ _ _ _ => (pg_name (i := 4) sc_goes_on.nd rfl (.inl rfl))) (fun _ _ _ _ _ => (pts_one (pt_cmpR op_notN1 (pv 4) pe_non (nomark _)))) (fun _ _ _ _ _ => (pv 4))) pa_nil)))))), pure_goes_on F h⟩

theorem sc_found_places_onward : NScope N_found_places_onward ["address"] ["code"] (C8.fnScope on_found_places) := nscope_by (by decide +kernel)
theorem nok_found_places_onward (B : Bl mg) (C : Cn K mg) (F : FindC K w) (c_behind_and_target : Cl P w K mg base 3 "behind_and_target" (sp_behind_and_target K w)) (f : Addr) (cl : List (Str × Addr)) (c2 : Addr) : NOk P w K mg base CX0 4 f (NF.of on_found_places "onward" on_q_found_places cl c2) ["address"] ["code"] (spCap (sp_found_places_onward K w)) :=
  nok_of sc_found_places_onward (fun doc pm ctv us hl => match us, hl with | [_], _ => rfl) (fun ws vs H Q E h => len_on h) fun A outer s H vs ws Q E hr hf hc hw h => ⟨t_found_places_onward K w, PSs.nox (pss_one (ps_ret (pe_lc (own := [("place", 2)]) (g := (gName 2)) rfl sc_found_places_onward.nd (pi_seq (pe_cl c_behind_and_target hr (by decide) rfl (pa_cons (pv 1) (pa_cons (pv 0) pa_nil)))) (blkOk_by (by kernel_rfl)) (fun _ _ _ _ _ => (pg_name (i := 2) sc_found_places_onward.nd rfl (.inl rfl))) (fun _ _ _ _ _ => (pts_one (pt_cmpR op_notN1 (pv 2) pe_non (nomark _)))) (fun _ _ _ _ _ => (pv 2))))), pure_found_places_onward F h⟩

theorem sc_all_from : FnScope N_all_from ["first", "onward"] (defScope s_all_from) := ⟨rfl, rfl, rfl, by decide +kernel, rfl, by decide +kernel, by decide +kernel⟩
theorem cl_all_from (B : Bl mg) (C : Cn K mg) (F : FindC K w) (c_on : ∀ (f : Addr) (F : NF) (sp : Addr → Sp), OnP K F sp → NOk P w K mg base CX0 4 f F ["address"] ["code"] (spCap sp)) {f : Addr} {fd : FuncData} (D : FnP K "all_from" s_all_from f fd) (hm : mg "all_from" = some (.ref f)) (hb : Binds K fd ["first", "onward"] []) : Cl P w K mg base 5 "all_from" (sp_all_from K w) :=
  cl_of D hm hb sc_all_from (fun vs H Q E h => len_all_from h) fun cdv A outer s H vs Q E hr h => ⟨t_all_from K w, PSs.nox (pss_cons (ps_set (i := 2) sc_all_from.nd rfl (.inl rfl) (pe_disp (pps_cons (pv 0) pe_bl pps_nil) (by rfl) (by rfl) (fun z => by cases z) (by decide)))
      (pss_cons (ps_set (i := 3) sc_all_from.nd rfl (.inl rfl) (pe_lst (pa_cons (pv 0) pa_nil)))
      (pss_cons (ps_while PassesOwn.never (pt_cmpR (op_neA hr.units) (pv 3) (pe_lst pa_nil) (nomark _))
      (pss_one (ps_for PassesOwn.never rfl (pi_seq (pe_callH c_on hr (by decide) rfl (.inl rfl) (pa_cons (pe_bm0 PySem.F.plainAttrs_list PySem.F.slot_list_pop PySem.F.type_list_pop mt_pop (pv 3)) pa_nil))) (pg_name (i := 4) sc_all_from.nd rfl (.inl rfl))
      (pss_one (ps_if (pt_cmp (pc_dnotin (hu_of hr) (pv 4) (pv 2)) rfl)
      (pss_cons (ps_dput (hu_of hr) (pv 2) (pv 4) pe_bl rfl)
      (pss_one (ps_expr (pe_bm PySem.F.plainAttrs_list PySem.F.slot_list_append PySem.F.type_list_append mt_append (pv 3) (pa_cons (pv 4) pa_nil)))))
      pss_nil)))))
      (pss_one (ps_ret (pe_callB (cr_sortedD rfl) (by rfl) B.b_sorted (by decide +kernel) (pa_cons (pv 2) pa_nil))))))), pure_all_from F h⟩

theorem sc_found_places : FnScope N_found_places ["code"] (defScope s_found_places) := ⟨rfl, rfl, rfl, by decide +kernel, rfl, by decide +kernel, by decide +kernel⟩
theorem cl_found_places (B : Bl mg) (C : Cn K mg) (F : FindC K w) (c_all_from : Cl P w K mg base 5 "all_from" (sp_all_from K w)) (tb_found_places : TabB base mg (He.cT K ("found_places", none)).1 (nt_P_found_places K)) {fd : FuncData} (D : FnP K "found_places" s_found_places (He.fAd K ("found_places", none)) fd) (hm : mg "found_places" = some (.ref (He.fAd K ("found_places", none)))) (hb : Binds K fd ["code"] []) : Cl P w K mg base 6 "found_places" (sp_found_places K w) :=
  cl_ofC D hm hb sc_found_places (fun vs H Q E h => len_found_places h) fun A outer s H vs Q E hr h => ⟨t_found_places K w (s.heap.objs.size + 1), PSs.nox (pss_cons (ps_ndefW (i := 1) (T := NT K) (q := on_q_found_places) (cl := [("code", s.heap.objs.size + 1)]) rfl (by kernel_rfl) rfl tb_found_places rfl (nt_mem_found_places K) rfl (nt_one K) (by kernel_rfl) rfl rfl rfl sc_found_places.nd rfl (.inl rfl) (.inl rfl))
      (pss_one (ps_ret (pe_callC c_all_from hr (by decide) rfl (j := 0) rfl rfl rfl (Nat.lt_succ_self _) (pa_cons pe_int (pa_cons (pv 1) pa_nil)))))), pure_found_places F _ h⟩

theorem sc_found_rows : FnScope N_found_rows ["code"] (defScope s_found_rows) := ⟨rfl, rfl, rfl, by decide +kernel, rfl, by decide +kernel, by decide +kernel⟩
theorem cl_found_rows (B : Bl mg) (C : Cn K mg) (F : FindC K w) (c_found_places : Cl P w K mg base 6 "found_places" (sp_found_places K w)) (c_row_at : Cl P w K mg base 2 "row_at" (sp_row_at K w)) {f : Addr} {fd : FuncData} (D : FnP K "found_rows" s_found_rows f fd) (hm : mg "found_rows" = some (.ref f)) (hb : Binds K fd ["code"] []) : Cl P w K mg base 7 "found_rows" (sp_found_rows K w) :=
  cl_of D hm hb sc_found_rows (fun vs H Q E h => len_found_rows h) fun cdv A outer s H vs Q E hr h => ⟨t_found_rows K w, PSs.nox (pss_cons (ps_setLc (i := 1) (own := [("address", 2)]) (g := (gName 2)) rfl sc_found_rows.nd rfl rfl (sw_true rfl rfl rfl (by decide +kernel)) (pi_seq (pe_cl c_found_places hr (by decide) rfl (pa_cons (pv 0) pa_nil))) (blkOk_by (by kernel_rfl)) (fun _ _ _ _ _ => (pg_name (i := 2) sc_found_rows.nd rfl (.inl rfl))) (fun _ _ _ _ _ => pts_nil) (fun _ _ _ _ _ => (pe_tup (pa_cons (pv 2) (pa_cons (pe_cl c_row_at hr (by decide) rfl (pa_cons (pv 0) (pa_cons (pv 2) pa_nil))) pa_nil)))))
      (pss_one (ps_ret (pe_lc (own := [("address", 2), ("row", 3)]) (g := (gTup K 2 (gCons (gName 2) (gCons (gName 3) gNil)))) rfl sc_found_rows.nd (pi_seq (pv 1)) (blkOk_by (by kernel_rfl)) (fun _ _ _ _ _ => (pg_tup rfl (pgs_cons (pg_name (i := 2) sc_found_rows.nd rfl (.inl rfl)) (pgs_cons (pg_name (i := 3) sc_found_rows.nd rfl (.inl rfl)) pgs_nil)))) (fun _ _ _ _ _ => pts_nil) (fun _ _ _ _ _ => (pe_tup (pa_cons (pv 2) (pa_cons (pe_ifExp (pt_cmpR op_isN1 (pv 3) pe_non (nomark _)) pe_non (pe_ix ix_seq (pv 3) pe_int (fun _ _ => rfl))) pa_nil)))))))), pure_found_rows F h⟩

theorem sc_ways_within : FnScope N_ways_within ["code", "entry"] (defScope s_ways_within) := ⟨rfl, rfl, rfl, by decide +kernel, rfl, by decide +kernel, by decide +kernel⟩
theorem cl_ways_within (B : Bl mg) (C : Cn K mg) (F : FindC K w) (c_goes_on : Cl P w K mg base 4 "goes_on" (sp_goes_on K w)) {f : Addr} {fd : FuncData} (D : FnP K "ways_within" s_ways_within f fd) (hm : mg "ways_within" = some (.ref f)) (hb : Binds K fd ["code", "entry"] []) : Cl P w K mg base 5 "ways_within" (sp_ways_within K w) :=
  cl_of D hm hb sc_ways_within (fun vs H Q E h => len_ways_within h) fun cdv A outer s H vs Q E hr h => ⟨t_ways_within K w, PSs.nox (pss_cons (ps_set (i := 2) sc_ways_within.nd rfl (.inl rfl) pe_dnewK)
      (pss_cons (ps_set (i := 3) sc_ways_within.nd rfl (.inl rfl) (pe_lst (pa_cons (pv 1) pa_nil)))
      (pss_cons (ps_while PassesOwn.never (pt_cmpR (op_neA hr.units) (pv 3) (pe_lst pa_nil) (nomark _))
      (pss_cons (ps_set (i := 4) sc_ways_within.nd rfl (.inl rfl) (pe_bm0 PySem.F.plainAttrs_list PySem.F.slot_list_pop PySem.F.type_list_pop mt_pop (pv 3)))
      (pss_one (ps_if (pt_cmp (pc_dnotin (hu_of hr) (pv 4) (pv 2)) rfl)
      (pss_cons (ps_dput (hu_of hr) (pv 2) (pv 4) (pe_cl c_goes_on hr (by decide) rfl (pa_cons (pv 0) (pa_cons (pv 4) pa_nil))) rfl)
      (pss_one (ps_expr (pe_bm PySem.F.plainAttrs_list PySem.F.slot_list_extend PySem.F.type_list_extend mt_extend (pv 3) (pa_cons (pe_dget (hu_of hr) (pv 2) (pv 4) (fun _ _ => rfl)) pa_nil)))))
      pss_nil))))
      (pss_one (ps_ret (pv 2)))))), pure_ways_within F h⟩

theorem sc_come_to : FnScope N_come_to ["ways", "first", "barred"] (defScope s_come_to) := ⟨rfl, rfl, rfl, by decide +kernel, rfl, by decide +kernel, by decide +kernel⟩
theorem cl_come_to (B : Bl mg) (C : Cn K mg) (F : FindC K w) {f : Addr} {fd : FuncData} (D : FnP K "come_to" s_come_to f fd) (hm : mg "come_to" = some (.ref f)) (hb : Binds K fd ["ways", "first", "barred"] []) : Cl P w K mg base 1 "come_to" (sp_come_to K w) :=
  cl_of D hm hb sc_come_to (fun vs H Q E h => len_come_to h) fun cdv A outer s H vs Q E hr h => ⟨t_come_to K w, PSs.nox (pss_cons (ps_set (i := 3) sc_come_to.nd rfl (.inl rfl) pe_dnewK)
      (pss_cons (ps_set (i := 4) sc_come_to.nd rfl (.inl rfl) (pe_ifExp (pt_cmpR (op_neA hr.units) (pv 1) (pv 2) (nomark _)) (pe_lst (pa_cons (pv 1) pa_nil)) (pe_lst pa_nil)))
      (pss_cons (ps_while PassesOwn.never (pt_cmpR (op_neA hr.units) (pv 4) (pe_lst pa_nil) (nomark _))
      (pss_cons (ps_set (i := 5) sc_come_to.nd rfl (.inl rfl) (pe_bm0 PySem.F.plainAttrs_list PySem.F.slot_list_pop PySem.F.type_list_pop mt_pop (pv 4)))
      (pss_one (ps_if (pt_cmp (pc_dnotin (hu_of hr) (pv 5) (pv 3)) rfl)
      (pss_cons (ps_dput (hu_of hr) (pv 3) (pv 5) pe_bl rfl)
      (pss_one (ps_expr (pe_bm PySem.F.plainAttrs_list PySem.F.slot_list_extend PySem.F.type_list_extend mt_extend (pv 4) (pa_cons (pe_lc (own := [("other", 6)]) (g := (gName 6)) rfl sc_come_to.nd (pi_seq (pe_dget (hu_of hr) (pv 0) (pv 5) (fun _ _ => rfl))) (blkOk_by (by kernel_rfl)) (fun _ _ _ _ _ => (pg_name (i := 6) sc_come_to.nd rfl (.inl rfl))) (fun _ _ _ _ _ => (pts_one (pt_cmpR (op_neA hr.units) (pv 6) (pv 2) (nomark _)))) (fun _ _ _ _ _ => (pv 6))) pa_nil)))))
      pss_nil))))
      (pss_one (ps_ret (pv 3)))))), pure_come_to F h⟩

theorem sc_leaders : FnScope N_leaders ["ways", "entry"] (defScope s_leaders) := ⟨rfl, rfl, rfl, by decide +kernel, rfl, by decide +kernel, by decide +kernel⟩
theorem cl_leaders (B : Bl mg) (C : Cn K mg) (F : FindC K w) (c_come_to : Cl P w K mg base 1 "come_to" (sp_come_to K w)) {f : Addr} {fd : FuncData} (D : FnP K "leaders" s_leaders f fd) (hm : mg "leaders" = some (.ref f)) (hb : Binds K fd ["ways", "entry"] []) : Cl P w K mg base 2 "leaders" (sp_leaders K w) :=
  cl_of D hm hb sc_leaders (fun vs H Q E h => len_leaders h) fun cdv A outer s H vs Q E hr h => ⟨t_leaders K w, PSs.nox (pss_cons (ps_setDc (i := 2) (own := [("address", 3)]) (g := (gName 3)) rfl sc_leaders.nd rfl rfl (sw_trueD rfl rfl rfl (by decide +kernel)) (pi_keys (pe_frz (pv 0))) (blkOk_by (by kernel_rfl)) (fun _ _ _ _ _ => (pg_name (i := 3) sc_leaders.nd rfl (.inl rfl))) (fun _ _ _ _ _ => pts_nil) (fun _ _ _ _ _ => (pv 3)) (fun _ _ _ _ _ => (pe_lst pa_nil)))
      (pss_cons (ps_for PassesOwn.never rfl (pi_seq (pe_callB (cr_sortedR rfl) (by rfl) B.b_sorted (by decide +kernel) (pa_cons (pv 0) pa_nil))) (pg_name (i := 4) sc_leaders.nd rfl (.inl rfl))
      (pss_cons (ps_set (i := 5) sc_leaders.nd rfl (.inl rfl) (pe_cl c_come_to hr (by decide) rfl (pa_cons (pv 0) (pa_cons (pv 1) (pa_cons (pv 4) pa_nil)))))
      (pss_one (ps_for PassesOwn.never rfl (pi_keys (pe_frz (pv 0))) (pg_name (i := 3) sc_leaders.nd rfl (.inl rfl))
      (pss_one (ps_if (pt_cmp (pc_dnotin (hu_of hr) (pv 3) (pv 5)) rfl)
      (pss_one (ps_expr (pe_bm PySem.F.plainAttrs_list PySem.F.slot_list_append PySem.F.type_list_append mt_append (pe_dget (hu_of hr) (pv 2) (pv 3) (fun _ _ => rfl)) (pa_cons (pv 4) pa_nil))))
      pss_nil))))))
      (pss_one (ps_ret (pv 2))))), pure_leaders F h⟩

theorem sc_led_over : FnScope N_led_over ["code", "entry"] (defScope s_led_over) := ⟨rfl, rfl, rfl, by decide +kernel, rfl, by decide +kernel, by decide +kernel⟩
theorem cl_led_over (B : Bl mg) (C : Cn K mg) (F : FindC K w) (c_leaders : Cl P w K mg base 2 "leaders" (sp_leaders K w)) (c_ways_within : Cl P w K mg base 5 "ways_within" (sp_ways_within K w)) {f : Addr} {fd : FuncData} (D : FnP K "led_over" s_led_over f fd) (hm : mg "led_over" = some (.ref f)) (hb : Binds K fd ["code", "entry"] []) : Cl P w K mg base 6 "led_over" (sp_led_over K w) :=
  cl_of D hm hb sc_led_over (fun vs H Q E h => len_led_over h) fun cdv A outer s H vs Q E hr h => ⟨t_led_over K w, PSs.nox (pss_cons (ps_set (i := 2) sc_led_over.nd rfl (.inr rfl) (pe_cl c_leaders hr (by decide) rfl (pa_cons (pe_cl c_ways_within hr (by decide) rfl (pa_cons (pv 0) (pa_cons (pv 1) pa_nil))) (pa_cons (pv 1) pa_nil))))
      (pss_one (ps_ret (pe_lc (own := [("address", 3)]) (g := (gName 3)) rfl sc_led_over.nd (pi_seq (pe_callB (cr_sortedR rfl) (by rfl) B.b_sorted (by decide +kernel) (pa_cons (pv 2) pa_nil))) (blkOk_by (by kernel_rfl)) (fun _ _ _ _ _ => (pg_name (i := 3) sc_led_over.nd rfl (.inl rfl))) (fun _ _ _ _ _ => pts_nil) (fun _ _ _ _ _ => (pe_tup (pa_cons (pv 3) (pa_cons (pe_dget (hu_of hr) (pv 2) (pv 3) (fun _ _ => rfl)) pa_nil)))))))), pure_led_over F h⟩

theorem sc_turns_back : FnScope N_turns_back ["ways", "entry"] (defScope s_turns_back) := ⟨rfl, rfl, rfl, by decide +kernel, rfl, by decide +kernel, by decide +kernel⟩
theorem cl_turns_back (B : Bl mg) (C : Cn K mg) (F : FindC K w) (c_leaders : Cl P w K mg base 2 "leaders" (sp_leaders K w)) {f : Addr} {fd : FuncData} (D : FnP K "turns_back" s_turns_back f fd) (hm : mg "turns_back" = some (.ref f)) (hb : Binds K fd ["ways", "entry"] []) : Cl P w K mg base 3 "turns_back" (sp_turns_back K w) :=
  cl_of D hm hb sc_turns_back (fun vs H Q E h => len_turns_back h) fun cdv A outer s H vs Q E hr h => ⟨t_turns_back K w, PSs.nox (pss_cons (ps_set (i := 2) sc_turns_back.nd rfl (.inr rfl) (pe_cl c_leaders hr (by decide) rfl (pa_cons (pv 0) (pa_cons (pv 1) pa_nil))))
      (pss_one (ps_ret (pe_lc2 (own := [("address", 3), ("other", 4)]) (vs1 := [4]) (g := (gName 3)) (g1 := (gName 4)) rfl sc_turns_back.nd (pi_seq (pe_callB (cr_sortedR rfl) (by rfl) B.b_sorted (by decide +kernel) (pa_cons (pv 0) pa_nil))) (blkOk_by (by kernel_rfl)) (by decide) (fun _ _ _ _ _ => (pg_name (i := 3) sc_turns_back.nd rfl (.inl rfl))) (fun _ _ _ _ _ => pts_nil) (fun _ _ _ _ _ => (pi_seq (pe_dget (hu_of hr) (pv 0) (pv 3) (fun _ _ => rfl)))) (fun _ _ _ _ _ => (pg_name (i := 4) sc_turns_back.nd rfl (.inl rfl))) (fun _ _ _ _ _ => (pts_one (pt_cmpR op_in_seq (pv 4) (pe_dget (hu_of hr) (pv 2) (pv 3) (fun _ _ => rfl)) rfl))) (fun _ _ _ _ _ => (pe_tup (pa_cons (pv 3) (pa_cons (pv 4) pa_nil)))))))), pure_turns_back F h⟩

theorem sc_turned_away : FnScope N_turned_away ["ways"] (defScope s_turned_away) := ⟨rfl, rfl, rfl, by decide +kernel, rfl, by decide +kernel, by decide +kernel⟩
theorem cl_turned_away (B : Bl mg) (C : Cn K mg) (F : FindC K w) {f : Addr} {fd : FuncData} (D : FnP K "turned_away" s_turned_away f fd) (hm : mg "turned_away" = some (.ref f)) (hb : Binds K fd ["ways"] []) : Cl P w K mg base 1 "turned_away" (sp_turned_away K w) :=
  cl_of D hm hb sc_turned_away (fun vs H Q E h => len_turned_away h) fun cdv A outer s H vs Q E hr h => ⟨t_turned_away K w, PSs.nox (pss_cons (ps_setDc (i := 1) (own := [("address", 2)]) (g := (gName 2)) rfl sc_turned_away.nd rfl rfl (sw_trueD rfl rfl rfl (by decide +kernel)) (pi_keys (pe_frz (pv 0))) (blkOk_by (by kernel_rfl)) (fun _ _ _ _ _ => (pg_name (i := 2) sc_turned_away.nd rfl (.inl rfl))) (fun _ _ _ _ _ => pts_nil) (fun _ _ _ _ _ => (pv 2)) (fun _ _ _ _ _ => (pe_lst pa_nil)))
      (pss_cons (ps_for PassesOwn.never rfl (pi_items (pe_frz (pv 0))) (pg_tup rfl (pgs_cons (pg_name (i := 2) sc_turned_away.nd rfl (.inl rfl)) (pgs_cons (pg_name (i := 3) sc_turned_away.nd rfl (.inl rfl)) pgs_nil)))
      (pss_one (ps_for PassesOwn.never rfl (pi_seq (pv 3)) (pg_name (i := 4) sc_turned_away.nd rfl (.inl rfl))
      (pss_one (ps_expr (pe_bm PySem.F.plainAttrs_list PySem.F.slot_list_append PySem.F.type_list_append mt_append (pe_dget (hu_of hr) (pv 1) (pv 4) (fun _ _ => rfl)) (pa_cons (pv 2) pa_nil)))))))
      (pss_one (ps_ret (pv 1))))), pure_turned_away F h⟩

theorem sc_rings : FnScope N_rings ["code", "entry"] (defScope s_rings) := ⟨rfl, rfl, rfl, by decide +kernel, rfl, by decide +kernel, by decide +kernel⟩
theorem cl_rings (B : Bl mg) (C : Cn K mg) (F : FindC K w) (c_ways_within : Cl P w K mg base 5 "ways_within" (sp_ways_within K w)) (c_turned_away : Cl P w K mg base 1 "turned_away" (sp_turned_away K w)) (c_turns_back : Cl P w K mg base 3 "turns_back" (sp_turns_back K w)) (c_come_to : Cl P w K mg base 1 "come_to" (sp_come_to K w)) {f : Addr} {fd : FuncData} (D : FnP K "rings" s_rings f fd) (hm : mg "rings" = some (.ref f)) (hb : Binds K fd ["code", "entry"] []) : Cl P w K mg base 6 "rings" (sp_rings K w) :=
  cl_of D hm hb sc_rings (fun vs H Q E h => len_rings h) fun cdv A outer s H vs Q E hr h => ⟨t_rings K w, PSs.nox (pss_cons (ps_set (i := 2) sc_rings.nd rfl (.inl rfl) (pe_cl c_ways_within hr (by decide) rfl (pa_cons (pv 0) (pa_cons (pv 1) pa_nil))))
      (pss_cons (ps_set (i := 3) sc_rings.nd rfl (.inl rfl) (pe_cl c_turned_away hr (by decide) rfl (pa_cons (pv 2) pa_nil)))
      (pss_cons (ps_set (i := 4) sc_rings.nd rfl (.inr rfl) pe_dnewK)
      (pss_cons (ps_for PassesOwn.never rfl (pi_seq (pe_cl c_turns_back hr (by decide) rfl (pa_cons (pv 2) (pa_cons (pv 1) pa_nil)))) (pg_tup rfl (pgs_cons (pg_name (i := 5) sc_rings.nd rfl (.inl rfl)) (pgs_cons (pg_name (i := 6) sc_rings.nd rfl (.inl rfl)) pgs_nil)))
      (pss_cons (ps_set (i := 7) sc_rings.nd rfl (.inl rfl) (pe_dsetd (pv 4) (pv 6) (pe_disp (pps_cons (pv 6) pe_bl pps_nil) (by rfl) (by rfl) (fun z => by cases z) (by decide)) ⟨rfl, rfl, rfl, rfl⟩))
      (pss_one (ps_expr (pe_bm PySem.F.plainAttrs_dict PySem.F.slot_dict_update PySem.F.type_dict_update mt_update (pv 7) (pa_cons (pe_cl c_come_to hr (by decide) rfl (pa_cons (pv 3) (pa_cons (pv 5) (pa_cons (pv 6) pa_nil)))) pa_nil))))))
      (pss_one (ps_ret (pe_lc (own := [("head", 6)]) (g := (gName 6)) rfl sc_rings.nd (pi_seq (pe_callB (cr_sortedR rfl) (by rfl) B.b_sorted (by decide +kernel) (pa_cons (pv 4) pa_nil))) (blkOk_by (by kernel_rfl)) (fun _ _ _ _ _ => (pg_name (i := 6) sc_rings.nd rfl (.inl rfl))) (fun _ _ _ _ _ => pts_nil) (fun _ _ _ _ _ => (pe_tup (pa_cons (pv 6) (pa_cons (pe_callB (cr_sortedR rfl) (by rfl) B.b_sorted (by decide +kernel) (pa_cons (pe_dget (hu_of hr) (pv 4) (pv 6) (fun _ _ => rfl)) pa_nil)) pa_nil))))))))))), pure_rings F h⟩

theorem sc_not_led : FnScope N_not_led ["code", "entry"] (defScope s_not_led) := ⟨rfl, rfl, rfl, by decide +kernel, rfl, by decide +kernel, by decide +kernel⟩
theorem cl_not_led (B : Bl mg) (C : Cn K mg) (F : FindC K w) (c_ways_within : Cl P w K mg base 5 "ways_within" (sp_ways_within K w)) (c_turns_back : Cl P w K mg base 3 "turns_back" (sp_turns_back K w)) (c_come_to : Cl P w K mg base 1 "come_to" (sp_come_to K w)) {f : Addr} {fd : FuncData} (D : FnP K "not_led" s_not_led f fd) (hm : mg "not_led" = some (.ref f)) (hb : Binds K fd ["code", "entry"] []) : Cl P w K mg base 6 "not_led" (sp_not_led K w) :=
  cl_of D hm hb sc_not_led (fun vs H Q E h => len_not_led h) fun cdv A outer s H vs Q E hr h => ⟨t_not_led K w, PSs.nox (pss_cons (ps_set (i := 2) sc_not_led.nd rfl (.inr rfl) (pe_cl c_ways_within hr (by decide) rfl (pa_cons (pv 0) (pa_cons (pv 1) pa_nil))))
      (pss_cons (ps_set (i := 3) sc_not_led.nd rfl (.inr rfl) (pe_dcT (own := [("turn", 4)]) (g := (gName 4)) (hu_of hr) rfl sc_not_led.nd (pi_seq (pe_cl c_turns_back hr (by decide) rfl (pa_cons (pv 2) (pa_cons (pv 1) pa_nil)))) (blkOk_by (by kernel_rfl)) (fun _ _ _ _ _ => (pg_name (i := 4) sc_not_led.nd rfl (.inl rfl))) (fun _ _ _ _ _ => pts_nil) (fun _ _ _ _ _ => (pv 4)) (fun _ _ _ _ _ => pe_bl)))
      (pss_cons (ps_set (i := 5) sc_not_led.nd rfl (.inr rfl) (pe_dc (own := [("one", 7)]) (g := (gName 7)) rfl sc_not_led.nd (pi_keys (pe_frz (pv 2))) (blkOk_by (by kernel_rfl)) (fun _ _ _ _ _ => (pg_name (i := 7) sc_not_led.nd rfl (.inr rfl))) (fun _ _ _ _ _ => pts_nil) (fun _ _ _ _ _ => (pv 7)) (fun _ _ _ _ _ => (pe_lc (own := [("other", 6)]) (g := (gName 6)) rfl sc_not_led.nd (pi_seq (pe_dget (hu_of hr) (pv 2) (pv 7) (fun _ _ => rfl))) (blkOk_by (by kernel_rfl)) (fun _ _ _ _ _ => (pg_name (i := 6) sc_not_led.nd rfl (.inl rfl))) (fun _ _ _ _ _ => (pts_one (pt_cmp (pc_dnotin (hu_of hr) (pe_tup (pa_cons (pv 7) (pa_cons (pv 6) pa_nil))) (pv 3)) rfl))) (fun _ _ _ _ _ => (pv 6))))))
      (pss_cons (ps_for PassesOwn.never rfl (pi_seq (pe_callB (cr_sortedR rfl) (by rfl) B.b_sorted (by decide +kernel) (pa_cons (pv 5) pa_nil))) (pg_name (i := 8) sc_not_led.nd rfl (.inr rfl))
      (pss_one (ps_if (pt_val (pe_callB (cr_any rfl) (by rfl) B.b_any (by decide +kernel) (pa_cons (pe_lc (own := [("other", 6)]) (g := (gName 6)) rfl sc_not_led.nd (pi_seq (pe_dget (hu_of hr) (pv 5) (pv 8) (fun _ _ => rfl))) (blkOk_by (by kernel_rfl)) (fun _ _ _ _ _ => (pg_name (i := 6) sc_not_led.nd rfl (.inl rfl))) (fun _ _ _ _ _ => pts_nil) (fun _ _ _ _ _ => (pe_cmp (pc_din (hu_of hr) (pv 8) (pe_cl c_come_to hr (by decide) rfl (pa_cons (pv 5) (pa_cons (pv 6) (pa_cons pe_non pa_nil))))) rfl))) pa_nil)) (by intro _; rfl))
      (pss_one (ps_ret (pv 8)))
      pss_nil)))
      (pss_one (ps_ret pe_non)))))), pure_not_led F h⟩

theorem sc_law_spring : FnScope N_law_spring ["_law_script"] (defScope s_law_spring) := ⟨rfl, rfl, rfl, by decide +kernel, rfl, by decide +kernel, by decide +kernel⟩
theorem cl_law_spring (B : Bl mg) (C : Cn K mg) (F : FindC K w) {f : Addr} {fd : FuncData} (D : FnP K "_law_spring" s_law_spring f fd) (hm : mg "_law_spring" = some (.ref f)) (hb : Binds K fd ["_law_script"] []) : Cl P w K mg base 1 "_law_spring" (sp_law_spring K w) :=
  cl_of D hm hb sc_law_spring (fun vs H Q E h => len_law_spring h) fun cdv A outer s H vs Q E hr h => ⟨t_law_spring K w, PSs.nox (pss_cons (ps_set (i := 1) sc_law_spring.nd rfl (.inl rfl) pe_int)
      (pss_cons (ps_set (i := 2) sc_law_spring.nd rfl (.inl rfl) pe_int)
      (pss_cons (ps_for PassesOwn.never rfl (pi_seq (pe_slice sl_A (pv 0) po_none (po_some pe_int))) (pg_name (i := 3) sc_law_spring.nd rfl (.inl rfl))
      (pss_cons (ps_if (pt_cmpR op_geA (pe_callB call_absA (by rfl) B.b_abs (by decide +kernel) (pa_cons (pv 3) pa_nil)) (pe_op op_powA pe_int pe_int) (nomark _))
      (pss_one (ps_set (i := 1) sc_law_spring.nd rfl (.inl rfl) (pe_op op_addA (pe_op op_mulA (pv 1) (pe_op op_powA pe_int pe_int)) (pe_op op_modA (pe_callB call_absA (by rfl) B.b_abs (by decide +kernel) (pa_cons (pv 3) pa_nil)) (pe_op op_powA pe_int pe_int)))))
      pss_nil)
      (pss_one (ps_set (i := 2) sc_law_spring.nd rfl (.inl rfl) (pe_op op_modA (pe_op op_addA (pe_op op_addA (pe_op op_mulA (pv 2) pe_int) (pe_op op_modA (pv 3) pe_int)) pe_int) pe_int)))))
      (pss_one (ps_ret (pe_lst (pa_cons (pv 1) (pa_cons (pv 2) (pa_cons pe_int pa_nil))))))))), pure_law_spring F h⟩

theorem sc_law_draw : FnScope N_law_draw ["_law_spring_here", "_law_many"] (defScope s_law_draw) := ⟨rfl, rfl, rfl, by decide +kernel, rfl, by decide +kernel, by decide +kernel⟩
theorem cl_law_draw (B : Bl mg) (C : Cn K mg) (F : FindC K w) {f : Addr} {fd : FuncData} (D : FnP K "_law_draw" s_law_draw f fd) (hm : mg "_law_draw" = some (.ref f)) (hb : Binds K fd ["_law_spring_here", "_law_many"] []) : Cl P w K mg base 1 "_law_draw" (sp_law_draw K w) :=
  cl_of D hm hb sc_law_draw (fun vs H Q E h => len_law_draw h) fun cdv A outer s H vs Q E hr h => ⟨t_law_draw K w, PSs.nox (pss_cons (ps_if (pt_cmpR op_gtA (pe_ix ix_seq (pv 0) pe_int (fun _ _ => rfl)) pe_int (nomark _))
      (pss_cons (ps_set (i := 2) sc_law_draw.nd rfl (.inl rfl) (pe_op op_modA (pe_ix ix_seq (pv 0) pe_int (fun _ _ => rfl)) (pv 1)))
      (pss_cons (ps_asg (pe_op op_divA (pe_ix ix_seq (pv 0) pe_int (fun _ _ => rfl)) (pv 1)) (pg_sub (pv 0) pe_int set_list))
      (pss_one (ps_ret (pv 2)))))
      pss_nil)
      (pss_cons (ps_asg (pe_op op_addA (pe_ix ix_seq (pv 0) pe_int (fun _ _ => rfl)) pe_int) (pg_sub (pv 0) pe_int set_list))
      (pss_cons (ps_set (i := 3) sc_law_draw.nd rfl (.inl rfl) (pe_op op_modA (pe_op op_mulA (pe_ix ix_seq (pv 0) pe_int (fun _ _ => rfl)) (pe_ix ix_seq (pv 0) pe_int (fun _ _ => rfl))) pe_int))
      (pss_cons (ps_asg (pe_op op_modA (pe_op op_addA (pe_op op_addA (pv 3) (pe_op op_mulA (pe_op op_mulA pe_int (pe_ix ix_seq (pv 0) pe_int (fun _ _ => rfl))) (pe_ix ix_seq (pv 0) pe_int (fun _ _ => rfl)))) pe_int) pe_int) (pg_sub (pv 0) pe_int set_list))
      (pss_one (ps_ret (pe_op op_modA (pe_op op_divA (pe_ix ix_seq (pv 0) pe_int (fun _ _ => rfl)) pe_int) (pv 1)))))))), pure_law_draw F h⟩

theorem sc_law_bytes : FnScope N_law_bytes ["_law_row"] (defScope s_law_bytes) := ⟨rfl, rfl, rfl, by decide +kernel, rfl, by decide +kernel, by decide +kernel⟩
theorem cl_law_bytes (B : Bl mg) (C : Cn K mg) (F : FindC K w) {f : Addr} {fd : FuncData} (D : FnP K "_law_bytes" s_law_bytes f fd) (hm : mg "_law_bytes" = some (.ref f)) (hb : Binds K fd ["_law_row"] []) : Cl P w K mg base 1 "_law_bytes" (sp_law_bytes K w) :=
  cl_of D hm hb sc_law_bytes (fun vs H Q E h => len_law_bytes h) fun cdv A outer s H vs Q E hr h => ⟨t_law_bytes K w, PSs.nox (pss_cons (ps_set (i := 1) sc_law_bytes.nd rfl (.inl rfl) (pe_ix ix_seq (pv 0) pe_int (fun _ _ => rfl)))
      (pss_cons (ps_if (pt_cmpR op_in_seq (pv 1) (pe_lst (pa_cons pe_str (pa_cons pe_str (pa_cons pe_str pa_nil)))) rfl)
      (pss_one (ps_ret (pe_lst (pa_cons (pe_bm PySem.F.plainAttrs_list PySem.F.slot_list_index PySem.F.type_list_index mt_index (pe_lst (pa_cons pe_str (pa_cons pe_str (pa_cons pe_str pa_nil)))) (pa_cons (pv 1) pa_nil)) pa_nil))))
      pss_nil)
      (pss_cons (ps_if (pt_cmpR op_in_seq (pv 1) (pe_lst (pa_cons pe_str (pa_cons pe_str (pa_cons pe_str (pa_cons pe_str (pa_cons pe_str (pa_cons pe_str pa_nil))))))) rfl)
      (pss_one (ps_ret (pe_lst (pa_cons (pe_op op_addA pe_int (pe_bm PySem.F.plainAttrs_list PySem.F.slot_list_index PySem.F.type_list_index mt_index (pe_lst (pa_cons pe_str (pa_cons pe_str (pa_cons pe_str (pa_cons pe_str (pa_cons pe_str (pa_cons pe_str pa_nil))))))) (pa_cons (pv 1) pa_nil))) (pa_cons (pe_ix ix_seq (pv 0) pe_int (fun _ _ => rfl)) pa_nil)))))
      pss_nil)
      (pss_cons (ps_set (i := 2) sc_law_bytes.nd rfl (.inl rfl) (pe_op op_mulA pe_int (pe_bm PySem.F.plainAttrs_str PySem.F.slot_str_index PySem.F.type_str_index mt_sindex pe_str (pa_cons (pe_ix ix_seq (pv 0) pe_int (fun _ _ => rfl)) pa_nil))))
      (pss_cons (ps_if (pt_cmpR op_in_seq (pv 1) (pe_lst (pa_cons pe_str (pa_cons pe_str (pa_cons pe_str (pa_cons pe_str pa_nil))))) rfl)
      (pss_one (ps_ret (pe_lst (pa_cons (pe_op op_addA (pe_op op_addA pe_int (pv 2)) (pe_bm PySem.F.plainAttrs_list PySem.F.slot_list_index PySem.F.type_list_index mt_index (pe_lst (pa_cons pe_str (pa_cons pe_str (pa_cons pe_str (pa_cons pe_str pa_nil))))) (pa_cons (pv 1) pa_nil))) pa_nil))))
      pss_nil)
      (pss_cons (ps_set (i := 3) sc_law_bytes.nd rfl (.inl rfl) (pe_lst (pa_cons pe_str (pa_cons pe_str (pa_cons pe_str (pa_cons pe_str (pa_cons pe_str (pa_cons pe_str (pa_cons pe_str (pa_cons pe_str (pa_cons pe_str (pa_cons pe_str (pa_cons pe_str (pa_cons pe_str (pa_cons pe_str pa_nil)))))))))))))))
      (pss_cons (ps_set (i := 4) sc_law_bytes.nd rfl (.inl rfl) (pe_op op_addA (pe_op op_addA pe_int (pe_op op_mulA pe_int (pe_bm PySem.F.plainAttrs_list PySem.F.slot_list_index PySem.F.type_list_index mt_index (pv 3) (pa_cons (pv 1) pa_nil)))) (pv 2)))
      (pss_cons (ps_if (pt_cmpR op_in_seq (pv 1) (pe_lst (pa_cons pe_str (pa_cons pe_str (pa_cons pe_str (pa_cons pe_str pa_nil))))) rfl)
      (pss_one (ps_ret (pe_lst (pa_cons (pv 4) (pa_cons (pe_ix ix_seq (pv 0) pe_int (fun _ _ => rfl)) pa_nil)))))
      pss_nil)
      (pss_one (ps_ret (pe_lst (pa_cons (pe_op op_addA (pv 4) (pe_bm PySem.F.plainAttrs_str PySem.F.slot_str_index PySem.F.type_str_index mt_sindex pe_str (pa_cons (pe_ix ix_seq (pv 0) pe_int (fun _ _ => rfl)) pa_nil))) pa_nil)))))))))))), pure_law_bytes F h⟩

theorem sc_law_drawn_row : FnScope N_law_drawn_row ["_law_spring_here"] (defScope s_law_drawn_row) := ⟨rfl, rfl, rfl, by decide +kernel, rfl, by decide +kernel, by decide +kernel⟩
theorem cl_law_drawn_row (B : Bl mg) (C : Cn K mg) (F : FindC K w) (c_law_draw : Cl P w K mg base 1 "_law_draw" (sp_law_draw K w)) {f : Addr} {fd : FuncData} (D : FnP K "_law_drawn_row" s_law_drawn_row f fd) (hm : mg "_law_drawn_row" = some (.ref f)) (hb : Binds K fd ["_law_spring_here"] []) : Cl P w K mg base 2 "_law_drawn_row" (sp_law_drawn_row K w) :=
  cl_of D hm hb sc_law_drawn_row (fun vs H Q E h => len_law_drawn_row h) fun cdv A outer s H vs Q E hr h => ⟨t_law_drawn_row K w, PSs.nox (pss_cons (ps_par (i := 1) (j := 2) (by rfl) sc_law_drawn_row.nd rfl rfl (by decide) rfl rfl (pa_cons (pe_ix ix_seq pe_str (pe_cl c_law_draw hr (by decide) rfl (pa_cons (pv 0) (pa_cons pe_int pa_nil))) (fun _ _ => rfl)) (pa_cons (pe_ix ix_seq pe_str (pe_cl c_law_draw hr (by decide) rfl (pa_cons (pv 0) (pa_cons pe_int pa_nil))) (fun _ _ => rfl)) pa_nil)) (by rfl))
      (pss_cons (ps_set (i := 3) sc_law_drawn_row.nd rfl (.inl rfl) (pe_ix ix_seq (pe_lst (pa_cons (pe_cl c_law_draw hr (by decide) rfl (pa_cons (pv 0) (pa_cons pe_int pa_nil))) (pa_cons (pe_cl c_law_draw hr (by decide) rfl (pa_cons (pv 0) (pa_cons pe_int pa_nil))) (pa_cons (pe_op op_subA pe_int (pe_cl c_law_draw hr (by decide) rfl (pa_cons (pv 0) (pa_cons pe_int pa_nil)))) pa_nil)))) (pe_cl c_law_draw hr (by decide) rfl (pa_cons (pv 0) (pa_cons pe_int pa_nil))) (fun _ _ => rfl)))
      (pss_cons (ps_set (i := 4) sc_law_drawn_row.nd rfl (.inl rfl) (pe_cl c_law_draw hr (by decide) rfl (pa_cons (pv 0) (pa_cons pe_int pa_nil))))
      (pss_cons (ps_if (pt_cmpR op_ltA (pv 4) pe_int (nomark _))
      (pss_one (ps_ret (pe_tup (pa_cons (pe_ix ix_seq (pe_lst (pa_cons pe_str (pa_cons pe_str (pa_cons pe_str (pa_cons pe_str pa_nil))))) (pe_cl c_law_draw hr (by decide) rfl (pa_cons (pv 0) (pa_cons pe_int pa_nil))) (fun _ _ => rfl)) (pa_cons (pv 1) (pa_cons (pv 3) pa_nil))))))
      pss_nil)
      (pss_cons (ps_if (pt_cmpR op_ltA (pv 4) pe_int (nomark _))
      (pss_cons (ps_set (i := 5) sc_law_drawn_row.nd rfl (.inl rfl) (pe_lst (pa_cons pe_str (pa_cons pe_str (pa_cons pe_str (pa_cons pe_str (pa_cons pe_str (pa_cons pe_str (pa_cons pe_str (pa_cons pe_str (pa_cons pe_str pa_nil)))))))))))
      (pss_one (ps_ret (pe_tup (pa_cons (pe_ix ix_seq (pv 5) (pe_cl c_law_draw hr (by decide) rfl (pa_cons (pv 0) (pa_cons pe_int pa_nil))) (fun _ _ => rfl)) (pa_cons (pv 1) (pa_cons (pv 2) pa_nil)))))))
      pss_nil)
      (pss_cons (ps_if (pt_cmpR op_ltA (pv 4) pe_int (nomark _))
      (pss_one (ps_ret (pe_tup (pa_cons (pe_ix ix_seq (pe_lst (pa_cons pe_str (pa_cons pe_str (pa_cons pe_str (pa_cons pe_str (pa_cons pe_str (pa_cons pe_str pa_nil))))))) (pe_cl c_law_draw hr (by decide) rfl (pa_cons (pv 0) (pa_cons pe_int pa_nil))) (fun _ _ => rfl)) (pa_cons pe_int pa_nil)))))
      pss_nil)
      (pss_cons (ps_if (pt_cmpR op_ltA (pv 4) pe_int (nomark _))
      (pss_one (ps_ret (pe_tup (pa_cons (pe_ix ix_seq (pe_lst (pa_cons pe_str (pa_cons pe_str (pa_cons pe_str (pa_cons pe_str pa_nil))))) (pe_cl c_law_draw hr (by decide) rfl (pa_cons (pv 0) (pa_cons pe_int pa_nil))) (fun _ _ => rfl)) (pa_cons (pv 1) pa_nil)))))
      pss_nil)
      (pss_one (ps_ret (pe_tup (pa_cons (pe_ix ix_seq (pe_lst (pa_cons pe_str (pa_cons pe_str (pa_cons pe_str pa_nil)))) (pe_cl c_law_draw hr (by decide) rfl (pa_cons (pv 0) (pa_cons pe_int pa_nil))) (fun _ _ => rfl)) pa_nil))))))))))), pure_law_drawn_row F h⟩

theorem sc_law_tree : FnScope N_law_tree ["_law_spring_here", "_law_deep"] (defScope s_law_tree) := ⟨rfl, rfl, rfl, by decide +kernel, rfl, by decide +kernel, by decide +kernel⟩
theorem clr_law_tree (B : Bl mg) (C : Cn K mg) (F : FindC K w) (c_law_draw : Cl P w K mg base 1 "_law_draw" (sp_law_draw K w)) {f : Addr} {fd : FuncData} (D : FnP K "_law_tree" s_law_tree f fd) (hm : mg "_law_tree" = some (.ref f)) (hb : Binds K fd ["_law_spring_here", "_law_deep"] []) : ∀ n, Cl P w K mg base (1 + n) "_law_tree" (spTr K w n)
  | 0 => ⟨f, fd, _, ⟨fun vs H Q E h => h.elim, fun A outer s H args us vs Q E hr he hb hv h => h.elim⟩, hm, D.kp, hb⟩
  | n + 1 =>
    have c_rec := clr_law_tree B C F c_law_draw D hm hb n
    cl_of (k := 1 + n) D hm hb sc_law_tree (fun vs H Q E h => len_law_tree h) fun cdv A outer s H vs Q E hr h => ⟨t_law_tree K w (spTr K w n), PSs.nox (pss_cons (ps_set (i := 2) sc_law_tree.nd rfl (.inl rfl) (pe_lst pa_nil))
      (pss_cons (ps_for PassesOwn.never rfl (pi_range1 rfl B.b_range (pa_cons (pe_op op_addA pe_int (pe_cl c_law_draw hr (by omega) rfl (pa_cons (pv 0) (pa_cons pe_int pa_nil)))) pa_nil)) (pg_name (i := 3) sc_law_tree.nd rfl (.inl rfl))
      (pss_cons (ps_set (i := 4) sc_law_tree.nd rfl (.inl rfl) (pe_ifExp (pt_cmpR op_gtA (pv 1) pe_int (nomark _)) (pe_cl c_law_draw hr (by omega) rfl (pa_cons (pv 0) (pa_cons pe_int pa_nil))) pe_int))
      (pss_cons (ps_expr (pe_bm PySem.F.plainAttrs_list PySem.F.slot_list_append PySem.F.type_list_append mt_append (pv 2) (pa_cons (pe_tup (pa_cons pe_str (pa_cons (pe_ix ix_seq (pe_lst (pa_cons (pe_lst (pa_cons pe_int pa_nil)) (pa_cons (pe_lst (pa_cons pe_int pa_nil)) (pa_cons (pe_lst (pa_cons pe_int pa_nil)) (pa_cons (pe_lst (pa_cons pe_int pa_nil)) (pa_cons (pe_lst (pa_cons pe_int (pa_cons pe_int pa_nil))) (pa_cons (pe_lst (pa_cons pe_int pa_nil)) pa_nil))))))) (pe_cl c_law_draw hr (by omega) rfl (pa_cons (pv 0) (pa_cons pe_int pa_nil))) (fun _ _ => rfl)) pa_nil))) pa_nil)))
      (pss_one (ps_if (PW.pt (pw_or (pt_cmpR (op_eqA hr.units) (pv 4) pe_int (nomark _)) (pw_or1 (pt_cmpR (op_eqA hr.units) (pv 4) pe_int (nomark _)))))
      (pss_one (ps_expr (pe_bm PySem.F.plainAttrs_list PySem.F.slot_list_append PySem.F.type_list_append mt_append (pv 2) (pa_cons (pe_tup (pa_cons pe_str (pa_cons (pe_cl c_rec hr (Nat.le_refl _) rfl (pa_cons (pv 0) (pa_cons (pe_op op_subA (pv 1) pe_int) pa_nil))) (pa_cons (pe_lst pa_nil) pa_nil)))) pa_nil))))
      (pss_one (ps_if (pt_cmpR (op_eqA hr.units) (pv 4) pe_int (nomark _))
      (pss_one (ps_expr (pe_bm PySem.F.plainAttrs_list PySem.F.slot_list_append PySem.F.type_list_append mt_append (pv 2) (pa_cons (pe_tup (pa_cons pe_str (pa_cons (pe_cl c_rec hr (Nat.le_refl _) rfl (pa_cons (pv 0) (pa_cons (pe_op op_subA (pv 1) pe_int) pa_nil))) (pa_cons (pe_cl c_rec hr (Nat.le_refl _) rfl (pa_cons (pv 0) (pa_cons (pe_op op_subA (pv 1) pe_int) pa_nil))) pa_nil)))) pa_nil))))
      (pss_one (ps_if (pt_cmpR op_gtA (pv 4) pe_int (nomark _))
      (pss_one (ps_expr (pe_bm PySem.F.plainAttrs_list PySem.F.slot_list_append PySem.F.type_list_append mt_append (pv 2) (pa_cons (pe_tup (pa_cons pe_str (pa_cons (pe_cl c_rec hr (Nat.le_refl _) rfl (pa_cons (pv 0) (pa_cons (pe_op op_subA (pv 1) pe_int) pa_nil))) (pa_cons (pe_cl c_rec hr (Nat.le_refl _) rfl (pa_cons (pv 0) (pa_cons (pe_op op_subA (pv 1) pe_int) pa_nil))) pa_nil)))) pa_nil))))
      pss_nil)))))))))
      (pss_one (ps_ret (pv 2))))), pure_law_tree F h⟩
theorem cl_law_tree (B : Bl mg) (C : Cn K mg) (F : FindC K w) (c_law_draw : Cl P w K mg base 1 "_law_draw" (sp_law_draw K w)) {f : Addr} {fd : FuncData} (D : FnP K "_law_tree" s_law_tree f fd) (hm : mg "_law_tree" = some (.ref f)) (hb : Binds K fd ["_law_spring_here", "_law_deep"] []) : Cl P w K mg base 5 "_law_tree" (sp_law_tree K w) :=
  clr_law_tree B C F c_law_draw D hm hb 4

theorem sc_law_if_laid : FnScope N_law_if_laid ["_law_part", "_law_code"] (defScope s_law_if_laid) := ⟨rfl, rfl, rfl, by decide +kernel, rfl, by decide +kernel, by decide +kernel⟩
theorem sc_law_loop_laid : FnScope N_law_loop_laid ["_law_part", "_law_code"] (defScope s_law_loop_laid) := ⟨rfl, rfl, rfl, by decide +kernel, rfl, by decide +kernel, by decide +kernel⟩
theorem sc_law_tree_laid : FnScope N_law_tree_laid ["_law_tree_here", "_law_code"] (defScope s_law_tree_laid) := ⟨rfl, rfl, rfl, by decide +kernel, rfl, by decide +kernel, by decide +kernel⟩
theorem clr_law_tree_laid (B : Bl mg) (C : Cn K mg) (F : FindC K w) (c_law_draw : Cl P w K mg base 1 "_law_draw" (sp_law_draw K w)) (g_law_draw : mg "_law_draw" = some (.ref (He.ga K "_law_draw"))) (g_law_if_laid : mg "_law_if_laid" = some (.ref (He.ga K "_law_if_laid"))) (g_law_loop_laid : mg "_law_loop_laid" = some (.ref (He.ga K "_law_loop_laid"))) {f_law_tree_laid : Addr} {fd_law_tree_laid : FuncData} (D_law_tree_laid : FnP K "_law_tree_laid" s_law_tree_laid f_law_tree_laid fd_law_tree_laid) (hm_law_tree_laid : mg "_law_tree_laid" = some (.ref f_law_tree_laid)) (hb_law_tree_laid : Binds K fd_law_tree_laid ["_law_tree_here", "_law_code"] []) {f_law_if_laid : Addr} {fd_law_if_laid : FuncData} (D_law_if_laid : FnP K "_law_if_laid" s_law_if_laid f_law_if_laid fd_law_if_laid) (hm_law_if_laid : mg "_law_if_laid" = some (.ref f_law_if_laid)) (hb_law_if_laid : Binds K fd_law_if_laid ["_law_part", "_law_code"] []) {f_law_loop_laid : Addr} {fd_law_loop_laid : FuncData} (D_law_loop_laid : FnP K "_law_loop_laid" s_law_loop_laid f_law_loop_laid fd_law_loop_laid) (hm_law_loop_laid : mg "_law_loop_laid" = some (.ref f_law_loop_laid)) (hb_law_loop_laid : Binds K fd_law_loop_laid ["_law_part", "_law_code"] []) : ∀ n, Cl P w K mg base (1 + 2 * n) "_law_tree_laid" (spTl K w n)
  | 0 => ⟨f_law_tree_laid, fd_law_tree_laid, _, ⟨fun vs H Q E h => h.elim, fun A outer s H args us vs Q E hr he hb hv h => h.elim⟩, hm_law_tree_laid, D_law_tree_laid.kp, hb_law_tree_laid⟩
  | n + 1 => by
    have c_rec := clr_law_tree_laid B C F c_law_draw g_law_draw g_law_if_laid g_law_loop_laid D_law_tree_laid hm_law_tree_laid hb_law_tree_laid D_law_if_laid hm_law_if_laid hb_law_if_laid D_law_loop_laid hm_law_loop_laid hb_law_loop_laid n
    have c_law_if_laid : Cl P w K mg base (1 + 2 * n + 1) "_law_if_laid" (spIl K w n) :=
      cl_of (k := 1 + 2 * n) D_law_if_laid hm_law_if_laid hb_law_if_laid sc_law_if_laid (fun vs H Q E h => len_law_if_laid h) fun cdv A outer s H vs Q E hr h => ⟨t_law_if_laid K w (spTl K w n), PSs.nox (pss_cons (ps_set (i := 2) sc_law_if_laid.nd rfl (.inl rfl) (pe_callB call_lenA (by rfl) B.b_len (by decide +kernel) (pa_cons (pv 1) pa_nil)))
      (pss_cons (ps_expr (pe_bm PySem.F.plainAttrs_list PySem.F.slot_list_extend PySem.F.type_list_extend mt_extend (pv 1) (pa_cons (pe_lst (pa_cons pe_int (pa_cons pe_int pa_nil))) pa_nil)))
      (pss_cons (ps_set (i := 3) sc_law_if_laid.nd rfl (.inl rfl) (pe_cl c_rec hr (by omega) rfl (pa_cons (pe_ix ix_seq (pv 0) pe_int (fun _ _ => rfl)) (pa_cons (pv 1) pa_nil))))
      (pss_cons (ps_set (i := 4) sc_law_if_laid.nd rfl (.inl rfl) (pe_op op_addA (pe_callB call_lenA (by rfl) B.b_len (by decide +kernel) (pa_cons (pv 1) pa_nil)) pe_int))
      (pss_cons (ps_if (pt_cmpR (op_neA hr.units) (pe_ix ix_seq (pv 0) pe_int (fun _ _ => rfl)) (pe_lst pa_nil) (nomark _))
      (pss_one (ps_expr (pe_bm PySem.F.plainAttrs_list PySem.F.slot_list_extend PySem.F.type_list_extend mt_extend (pv 1) (pa_cons (pe_lst (pa_cons pe_int (pa_cons pe_int pa_nil))) pa_nil))))
      pss_nil)
      (pss_cons (ps_asg (pe_callB call_lenA (by rfl) B.b_len (by decide +kernel) (pa_cons (pv 1) pa_nil)) (pg_sub (pv 1) (pe_op op_addA (pv 2) pe_int) set_list))
      (pss_cons (ps_if (pt_cmpR (op_neA hr.units) (pe_ix ix_seq (pv 0) pe_int (fun _ _ => rfl)) (pe_lst pa_nil) (nomark _))
      (pss_cons (ps_set (i := 3) sc_law_if_laid.nd rfl (.inl rfl) (pe_op op_addA (pv 3) (pe_cl c_rec hr (by omega) rfl (pa_cons (pe_ix ix_seq (pv 0) pe_int (fun _ _ => rfl)) (pa_cons (pv 1) pa_nil)))))
      (pss_one (ps_asg (pe_callB call_lenA (by rfl) B.b_len (by decide +kernel) (pa_cons (pv 1) pa_nil)) (pg_sub (pv 1) (pv 4) set_list))))
      pss_nil)
      (pss_one (ps_ret (pv 3)))))))))), pure_law_if_laid F h⟩
    have c_law_loop_laid : Cl P w K mg base (1 + 2 * n + 1) "_law_loop_laid" (spLl K w n) :=
      cl_of (k := 1 + 2 * n) D_law_loop_laid hm_law_loop_laid hb_law_loop_laid sc_law_loop_laid (fun vs H Q E h => len_law_loop_laid h) fun cdv A outer s H vs Q E hr h => ⟨t_law_loop_laid K w (spTl K w n), PSs.nox (pss_cons (ps_set (i := 2) sc_law_loop_laid.nd rfl (.inl rfl) (pe_callB call_lenA (by rfl) B.b_len (by decide +kernel) (pa_cons (pv 1) pa_nil)))
      (pss_cons (ps_set (i := 3) sc_law_loop_laid.nd rfl (.inl rfl) (pe_cl c_rec hr (by omega) rfl (pa_cons (pe_ix ix_seq (pv 0) pe_int (fun _ _ => rfl)) (pa_cons (pv 1) pa_nil))))
      (pss_cons (ps_set (i := 4) sc_law_loop_laid.nd rfl (.inl rfl) (pe_callB call_lenA (by rfl) B.b_len (by decide +kernel) (pa_cons (pv 1) pa_nil)))
      (pss_cons (ps_expr (pe_bm PySem.F.plainAttrs_list PySem.F.slot_list_extend PySem.F.type_list_extend mt_extend (pv 1) (pa_cons (pe_lst (pa_cons pe_int (pa_cons pe_int pa_nil))) pa_nil)))
      (pss_cons (ps_set (i := 3) sc_law_loop_laid.nd rfl (.inl rfl) (pe_op op_addA (pv 3) (pe_cl c_rec hr (by omega) rfl (pa_cons (pe_ix ix_seq (pv 0) pe_int (fun _ _ => rfl)) (pa_cons (pv 1) pa_nil)))))
      (pss_cons (ps_expr (pe_bm PySem.F.plainAttrs_list PySem.F.slot_list_extend PySem.F.type_list_extend mt_extend (pv 1) (pa_cons (pe_lst (pa_cons pe_int (pa_cons (pv 2) pa_nil))) pa_nil)))
      (pss_cons (ps_asg (pe_callB call_lenA (by rfl) B.b_len (by decide +kernel) (pa_cons (pv 1) pa_nil)) (pg_sub (pv 1) (pe_op op_addA (pv 4) pe_int) set_list))
      (pss_one (ps_ret (pe_op op_addA (pv 3) (pe_lst (pa_cons (pe_tup (pa_cons (pv 2) (pa_cons (pe_op op_subA (pe_callB call_lenA (by rfl) B.b_len (by decide +kernel) (pa_cons (pv 1) pa_nil)) pe_int) pa_nil))) pa_nil)))))))))))), pure_law_loop_laid F h⟩
    exact cl_of (k := 1 + 2 * n + 1) D_law_tree_laid hm_law_tree_laid hb_law_tree_laid sc_law_tree_laid (fun vs H Q E h => len_law_tree_laid h) fun cdv A outer s H vs Q E hr h => ⟨t_law_tree_laid K w (spIl K w n) (spLl K w n), PSs.nox (pss_cons (ps_set (i := 2) sc_law_tree_laid.nd rfl (.inl rfl) (pe_lst pa_nil))
      (pss_cons (ps_for PassesOwn.never rfl (pi_seq (pv 0)) (pg_name (i := 3) sc_law_tree_laid.nd rfl (.inl rfl))
      (pss_one (ps_if (pt_cmpR (op_eqA hr.units) (pe_ix ix_seq (pv 3) pe_int (fun _ _ => rfl)) pe_str (nomark _))
      (pss_one (ps_expr (pe_bm PySem.F.plainAttrs_list PySem.F.slot_list_extend PySem.F.type_list_extend mt_extend (pv 1) (pa_cons (pe_ix ix_seq (pv 3) pe_int (fun _ _ => rfl)) pa_nil))))
      (pss_one (ps_if (pt_cmpR (op_eqA hr.units) (pe_ix ix_seq (pv 3) pe_int (fun _ _ => rfl)) pe_str (nomark _))
      (pss_one (ps_set (i := 2) sc_law_tree_laid.nd rfl (.inl rfl) (pe_op op_addA (pv 2) (pe_cl c_law_if_laid hr (by omega) rfl (pa_cons (pv 3) (pa_cons (pv 1) pa_nil))))))
      (pss_one (ps_set (i := 2) sc_law_tree_laid.nd rfl (.inl rfl) (pe_op op_addA (pv 2) (pe_cl c_law_loop_laid hr (by omega) rfl (pa_cons (pv 3) (pa_cons (pv 1) pa_nil)))))))))))
      (pss_one (ps_ret (pv 2))))), pure_law_tree_laid F h⟩
theorem cl_law_tree_laid (B : Bl mg) (C : Cn K mg) (F : FindC K w) (c_law_draw : Cl P w K mg base 1 "_law_draw" (sp_law_draw K w)) (g_law_draw : mg "_law_draw" = some (.ref (He.ga K "_law_draw"))) (g_law_if_laid : mg "_law_if_laid" = some (.ref (He.ga K "_law_if_laid"))) (g_law_loop_laid : mg "_law_loop_laid" = some (.ref (He.ga K "_law_loop_laid"))) {f_law_tree_laid : Addr} {fd_law_tree_laid : FuncData} (D_law_tree_laid : FnP K "_law_tree_laid" s_law_tree_laid f_law_tree_laid fd_law_tree_laid) (hm_law_tree_laid : mg "_law_tree_laid" = some (.ref f_law_tree_laid)) (hb_law_tree_laid : Binds K fd_law_tree_laid ["_law_tree_here", "_law_code"] []) {f_law_if_laid : Addr} {fd_law_if_laid : FuncData} (D_law_if_laid : FnP K "_law_if_laid" s_law_if_laid f_law_if_laid fd_law_if_laid) (hm_law_if_laid : mg "_law_if_laid" = some (.ref f_law_if_laid)) (hb_law_if_laid : Binds K fd_law_if_laid ["_law_part", "_law_code"] []) {f_law_loop_laid : Addr} {fd_law_loop_laid : FuncData} (D_law_loop_laid : FnP K "_law_loop_laid" s_law_loop_laid f_law_loop_laid fd_law_loop_laid) (hm_law_loop_laid : mg "_law_loop_laid" = some (.ref f_law_loop_laid)) (hb_law_loop_laid : Binds K fd_law_loop_laid ["_law_part", "_law_code"] []) : Cl P w K mg base 11 "_law_tree_laid" (sp_law_tree_laid K w) :=
  clr_law_tree_laid B C F c_law_draw g_law_draw g_law_if_laid g_law_loop_laid D_law_tree_laid hm_law_tree_laid hb_law_tree_laid D_law_if_laid hm_law_if_laid hb_law_if_laid D_law_loop_laid hm_law_loop_laid hb_law_loop_laid 5

theorem sc_law_made : FnScope N_law_made ["_law_spring_here", "_law_ahead"] (defScope s_law_made) := ⟨rfl, rfl, rfl, by decide +kernel, rfl, by decide +kernel, by decide +kernel⟩
theorem cl_law_made (B : Bl mg) (C : Cn K mg) (F : FindC K w) (c_law_tree_laid : Cl P w K mg base 11 "_law_tree_laid" (sp_law_tree_laid K w)) (c_law_tree : Cl P w K mg base 5 "_law_tree" (sp_law_tree K w)) (c_law_draw : Cl P w K mg base 1 "_law_draw" (sp_law_draw K w)) {f : Addr} {fd : FuncData} (D : FnP K "_law_made" s_law_made f fd) (hm : mg "_law_made" = some (.ref f)) (hb : Binds K fd ["_law_spring_here", "_law_ahead"] []) : Cl P w K mg base 12 "_law_made" (sp_law_made K w) :=
  cl_of D hm hb sc_law_made (fun vs H Q E h => len_law_made h) fun cdv A outer s H vs Q E hr h => ⟨t_law_made K w, PSs.nox (pss_cons (ps_for PassesOwn.never rfl (pi_seq (pe_lst (pa_cons pe_int (pa_cons pe_int (pa_cons pe_int (pa_cons pe_int pa_nil)))))) (pg_name (i := 2) sc_law_made.nd rfl (.inl rfl))
      (pss_cons (ps_set (i := 3) sc_law_made.nd rfl (.inl rfl) (pe_callTy call_listA (by rfl) B.b_list (by decide +kernel) (pa_cons (pv 1) pa_nil)))
      (pss_cons (ps_set (i := 4) sc_law_made.nd rfl (.inl rfl) (pe_cl c_law_tree_laid hr (by decide) rfl (pa_cons (pe_cl c_law_tree hr (by decide) rfl (pa_cons (pv 0) (pa_cons (pe_cl c_law_draw hr (by decide) rfl (pa_cons (pv 0) (pa_cons (pe_op op_addA (pv 2) pe_int) pa_nil))) pa_nil))) (pa_cons (pv 3) pa_nil))))
      (pss_one (ps_if (pt_cmpR op_ltA (pe_callB call_lenA (by rfl) B.b_len (by decide +kernel) (pa_cons (pv 3) pa_nil)) pe_int (nomark _))
      (pss_one (ps_ret (pe_tup (pa_cons (pe_op op_addA (pv 3) (pe_lst (pa_cons (pe_cl c_law_draw hr (by decide) rfl (pa_cons (pv 0) (pa_cons pe_int pa_nil))) pa_nil))) (pa_cons (pv 4) pa_nil)))))
      pss_nil)))))
      (pss_one (ps_ret (pe_tup (pa_cons (pe_op op_addA (pe_callTy call_listA (by rfl) B.b_list (by decide +kernel) (pa_cons (pv 1) pa_nil)) (pe_lst (pa_cons pe_int pa_nil))) (pa_cons (pe_lst pa_nil) pa_nil)))))), pure_law_made F h⟩

theorem sc_law_straight : FnScope N_law_straight ["_law_spring_here"] (defScope s_law_straight) := ⟨rfl, rfl, rfl, by decide +kernel, rfl, by decide +kernel, by decide +kernel⟩
theorem cl_law_straight (B : Bl mg) (C : Cn K mg) (F : FindC K w) (c_law_draw : Cl P w K mg base 1 "_law_draw" (sp_law_draw K w)) (c_law_drawn_row : Cl P w K mg base 2 "_law_drawn_row" (sp_law_drawn_row K w)) (c_law_bytes : Cl P w K mg base 1 "_law_bytes" (sp_law_bytes K w)) {f : Addr} {fd : FuncData} (D : FnP K "_law_straight" s_law_straight f fd) (hm : mg "_law_straight" = some (.ref f)) (hb : Binds K fd ["_law_spring_here"] []) : Cl P w K mg base 3 "_law_straight" (sp_law_straight K w) :=
  cl_of D hm hb sc_law_straight (fun vs H Q E h => len_law_straight h) fun cdv A outer s H vs Q E hr h => ⟨t_law_straight K w, PSs.nox (pss_cons (ps_setLc (i := 1) (own := [("_law_turn", 2)]) (g := (gName 2)) rfl sc_law_straight.nd rfl rfl (sw_true rfl rfl rfl (by decide +kernel)) (pi_range1 rfl B.b_range (pa_cons (pe_op op_addA pe_int (pe_cl c_law_draw hr (by decide) rfl (pa_cons (pv 0) (pa_cons (pe_ix ix_seq (pe_lst (pa_cons pe_int (pa_cons pe_int (pa_cons pe_int (pa_cons pe_int pa_nil))))) (pe_cl c_law_draw hr (by decide) rfl (pa_cons (pv 0) (pa_cons pe_int pa_nil))) (fun _ _ => rfl)) pa_nil)))) pa_nil)) (blkOk_by (by kernel_rfl)) (fun _ _ _ _ _ => (pg_name (i := 2) sc_law_straight.nd rfl (.inl rfl))) (fun _ _ _ _ _ => pts_nil) (fun _ _ _ _ _ => (pe_cl c_law_drawn_row hr (by decide) rfl (pa_cons (pv 0) pa_nil))))
      (pss_cons (ps_expr (pe_bm PySem.F.plainAttrs_list PySem.F.slot_list_append PySem.F.type_list_append mt_append (pv 1) (pa_cons (pe_tup (pa_cons pe_str pa_nil)) pa_nil)))
      (pss_cons (ps_set (i := 3) sc_law_straight.nd rfl (.inl rfl) (pe_lst pa_nil))
      (pss_cons (ps_set (i := 4) sc_law_straight.nd rfl (.inl rfl) pe_int)
      (pss_cons (ps_for PassesOwn.never rfl (pi_seq (pv 1)) (pg_name (i := 5) sc_law_straight.nd rfl (.inl rfl))
      (pss_cons (ps_expr (pe_bm PySem.F.plainAttrs_list PySem.F.slot_list_append PySem.F.type_list_append mt_append (pv 3) (pa_cons (pv 4) pa_nil)))
      (pss_one (ps_set (i := 4) sc_law_straight.nd rfl (.inl rfl) (pe_op op_addA (pv 4) (pe_callB call_lenA (by rfl) B.b_len (by decide +kernel) (pa_cons (pe_cl c_law_bytes hr (by decide) rfl (pa_cons (pv 5) pa_nil)) pa_nil)))))))
      (pss_cons (ps_set (i := 6) sc_law_straight.nd rfl (.inl rfl) (pe_lst pa_nil))
      (pss_cons (ps_for PassesOwn.never rfl (pi_seq (pv 1)) (pg_name (i := 5) sc_law_straight.nd rfl (.inl rfl))
      (pss_cons (ps_if (PW.pt (pw_and (pt_cmpR (op_eqA hr.units) (pe_callB call_lenA (by rfl) B.b_len (by decide +kernel) (pa_cons (pv 5) pa_nil)) pe_int (nomark _)) (pw_and1 (pt_val (pe_callB call_isi (by rfl) B.b_isinstance (by decide +kernel) (pa_cons (pe_ix ix_seq (pv 5) pe_int (fun _ _ => rfl)) (pa_cons (pe_bltn (v := .ty "int") rfl B.b_int rfl rfl) pa_nil))) (by intro _; rfl)))))
      (pss_one (ps_set (i := 5) sc_law_straight.nd rfl (.inl rfl) (pe_tup (pa_cons (pe_ix ix_seq (pv 5) pe_int (fun _ _ => rfl)) (pa_cons (pe_ix ix_seq (pv 3) (pe_cl c_law_draw hr (by decide) rfl (pa_cons (pv 0) (pa_cons (pe_callB call_lenA (by rfl) B.b_len (by decide +kernel) (pa_cons (pv 3) pa_nil)) pa_nil))) (fun _ _ => rfl)) pa_nil)))))
      pss_nil)
      (pss_one (ps_set (i := 6) sc_law_straight.nd rfl (.inl rfl) (pe_op op_addA (pv 6) (pe_cl c_law_bytes hr (by decide) rfl (pa_cons (pv 5) pa_nil)))))))
      (pss_one (ps_ret (pv 6)))))))))), pure_law_straight F h⟩

theorem sc_law_moved : FnScope N_law_moved ["_law_code", "_law_far"] (defScope s_law_moved) := ⟨rfl, rfl, rfl, by decide +kernel, rfl, by decide +kernel, by decide +kernel⟩
theorem cl_law_moved (B : Bl mg) (C : Cn K mg) (F : FindC K w) (c_found_rows : Cl P w K mg base 7 "found_rows" (sp_found_rows K w)) (c_law_bytes : Cl P w K mg base 1 "_law_bytes" (sp_law_bytes K w)) {f : Addr} {fd : FuncData} (D : FnP K "_law_moved" s_law_moved f fd) (hm : mg "_law_moved" = some (.ref f)) (hb : Binds K fd ["_law_code", "_law_far"] []) : Cl P w K mg base 8 "_law_moved" (sp_law_moved K w) :=
  cl_of D hm hb sc_law_moved (fun vs H Q E h => len_law_moved h) fun cdv A outer s H vs Q E hr h => ⟨t_law_moved K w, PSs.nox (pss_cons (ps_set (i := 2) sc_law_moved.nd rfl (.inl rfl) (pe_callTy call_listA (by rfl) B.b_list (by decide +kernel) (pa_cons (pv 0) pa_nil)))
      (pss_cons (ps_set (i := 3) sc_law_moved.nd rfl (.inl rfl) pe_int)
      (pss_cons (ps_for PassesOwn.never rfl (pi_seq (pe_cl c_found_rows hr (by decide) rfl (pa_cons (pv 0) pa_nil))) (pg_tup rfl (pgs_cons (pg_name (i := 4) sc_law_moved.nd rfl (.inl rfl)) (pgs_cons (pg_name (i := 5) sc_law_moved.nd rfl (.inl rfl)) pgs_nil)))
      (pss_cons (ps_if (PW.pt (pw_or (pt_cmpR op_isN1 (pv 5) pe_non (nomark _)) (pw_or1 (pt_cmpR op_ltA (pv 4) (pv 3) (nomark _)))))
      (pss_one (ps_ret pe_non))
      pss_nil)
      (pss_cons (ps_set (i := 3) sc_law_moved.nd rfl (.inl rfl) (pe_op op_addA (pv 4) (pe_callB call_lenA (by rfl) B.b_len (by decide +kernel) (pa_cons (pe_cl c_law_bytes hr (by decide) rfl (pa_cons (pv 5) pa_nil)) pa_nil))))
      (pss_one (ps_if (PW.pt (pw_and (pt_cmpR (op_eqA hr.units) (pe_callB call_lenA (by rfl) B.b_len (by decide +kernel) (pa_cons (pv 5) pa_nil)) pe_int (nomark _)) (pw_and1 (pt_val (pe_callB call_isi (by rfl) B.b_isinstance (by decide +kernel) (pa_cons (pe_ix ix_seq (pv 5) pe_int (fun _ _ => rfl)) (pa_cons (pe_bltn (v := .ty "int") rfl B.b_int rfl rfl) pa_nil))) (by intro _; rfl)))))
      (pss_cons (ps_if (pt_cmpR op_gtA (pe_op op_addA (pe_ix ix_seq (pv 5) pe_int (fun _ _ => rfl)) (pv 1)) pe_int (nomark _))
      (pss_one (ps_ret pe_non))
      pss_nil)
      (pss_one (ps_asg (pe_op op_addA (pe_ix ix_seq (pv 5) pe_int (fun _ _ => rfl)) (pv 1)) (pg_sub (pv 2) (pe_op op_addA (pv 4) pe_int) set_list))))
      pss_nil)))))
      (pss_one (ps_ret (pe_op op_addA (pe_op op_mulA (pe_lst (pa_cons pe_int pa_nil)) (pv 1)) (pv 2))))))), pure_law_moved F h⟩

theorem sc_law_right : FnScope N_law_right ["_law_code", "_law_far"] (defScope s_law_right) := ⟨rfl, rfl, rfl, by decide +kernel, rfl, by decide +kernel, by decide +kernel⟩
theorem cl_law_right (B : Bl mg) (C : Cn K mg) (F : FindC K w) (c_law_moved : Cl P w K mg base 8 "_law_moved" (sp_law_moved K w)) (c_led_over : Cl P w K mg base 6 "led_over" (sp_led_over K w)) (c_rings : Cl P w K mg base 6 "rings" (sp_rings K w)) (c_not_led : Cl P w K mg base 6 "not_led" (sp_not_led K w)) {f : Addr} {fd : FuncData} (D : FnP K "_law_right" s_law_right f fd) (hm : mg "_law_right" = some (.ref f)) (hb : Binds K fd ["_law_code", "_law_far"] []) : Cl P w K mg base 9 "_law_right" (sp_law_right K w) :=
  cl_of D hm hb sc_law_right (fun vs H Q E h => len_law_right h) fun cdv A outer s H vs Q E hr h => ⟨t_law_right K w, PSs.nox (pss_cons (ps_set (i := 2) sc_law_right.nd rfl (.inl rfl) (pe_cl c_law_moved hr (by decide) rfl (pa_cons (pv 0) (pa_cons (pv 1) pa_nil))))
      (pss_cons (ps_if (pt_cmpR op_isN1 (pv 2) pe_non (nomark _))
      (pss_one (ps_ret pe_bl))
      pss_nil)
      (pss_cons (ps_set (i := 3) sc_law_right.nd rfl (.inr rfl) (pe_listRg rfl rfl B.b_list (prg_1 rfl B.b_range (pv 1))))
      (pss_cons (ps_setLc (i := 4) (own := [("_law_at", 5)]) (g := (gName 5)) rfl sc_law_right.nd rfl rfl (sw_true rfl rfl rfl (by decide +kernel)) (pi_seq (pv 3)) (blkOk_by (by kernel_rfl)) (fun _ _ _ _ _ => (pg_name (i := 5) sc_law_right.nd rfl (.inl rfl))) (fun _ _ _ _ _ => pts_nil) (fun _ _ _ _ _ => (pe_tup (pa_cons (pv 5) (pa_cons (pe_slice sl_A (pv 3) po_none (po_some (pe_op op_addA (pv 5) pe_int))) pa_nil)))))
      (pss_cons (ps_set (i := 4) sc_law_right.nd rfl (.inl rfl) (pe_op op_addA (pv 4) (pe_lc (own := [("_law_at", 5), ("_law_over", 7)]) (g := (gTup K 2 (gCons (gName 5) (gCons (gName 7) gNil)))) rfl sc_law_right.nd (pi_seq (pe_cl c_led_over hr (by decide) rfl (pa_cons (pv 0) (pa_cons pe_int pa_nil)))) (blkOk_by (by kernel_rfl)) (fun _ _ _ _ _ => (pg_tup rfl (pgs_cons (pg_name (i := 5) sc_law_right.nd rfl (.inl rfl)) (pgs_cons (pg_name (i := 7) sc_law_right.nd rfl (.inl rfl)) pgs_nil)))) (fun _ _ _ _ _ => pts_nil) (fun _ _ _ _ _ => (pe_tup (pa_cons (pe_op op_addA (pv 5) (pv 1)) (pa_cons (pe_op op_addA (pv 3) (pe_lc (own := [("_law_one", 6)]) (g := (gName 6)) rfl sc_law_right.nd (pi_seq (pv 7)) (blkOk_by (by kernel_rfl)) (fun _ _ _ _ _ => (pg_name (i := 6) sc_law_right.nd rfl (.inl rfl))) (fun _ _ _ _ _ => pts_nil) (fun _ _ _ _ _ => (pe_op op_addA (pv 6) (pv 1))))) pa_nil)))))))
      (pss_cons (ps_if (pt_cmpR (op_neA hr.units) (pe_cl c_led_over hr (by decide) rfl (pa_cons (pv 2) (pa_cons pe_int pa_nil))) (pv 4) (nomark _))
      (pss_one (ps_ret pe_bl))
      pss_nil)
      (pss_cons (ps_if (pt_cmpR (op_neA hr.units) (pe_cl c_rings hr (by decide) rfl (pa_cons (pv 2) (pa_cons pe_int pa_nil))) (pe_lc (own := [("_law_head", 8), ("_law_ring", 9)]) (g := (gTup K 2 (gCons (gName 8) (gCons (gName 9) gNil)))) rfl sc_law_right.nd (pi_seq (pe_cl c_rings hr (by decide) rfl (pa_cons (pv 0) (pa_cons pe_int pa_nil)))) (blkOk_by (by kernel_rfl)) (fun _ _ _ _ _ => (pg_tup rfl (pgs_cons (pg_name (i := 8) sc_law_right.nd rfl (.inl rfl)) (pgs_cons (pg_name (i := 9) sc_law_right.nd rfl (.inl rfl)) pgs_nil)))) (fun _ _ _ _ _ => pts_nil) (fun _ _ _ _ _ => (pe_tup (pa_cons (pe_op op_addA (pv 8) (pv 1)) (pa_cons (pe_lc (own := [("_law_at", 5)]) (g := (gName 5)) rfl sc_law_right.nd (pi_seq (pv 9)) (blkOk_by (by kernel_rfl)) (fun _ _ _ _ _ => (pg_name (i := 5) sc_law_right.nd rfl (.inl rfl))) (fun _ _ _ _ _ => pts_nil) (fun _ _ _ _ _ => (pe_op op_addA (pv 5) (pv 1)))) pa_nil))))) (nomark _))
      (pss_one (ps_ret pe_bl))
      pss_nil)
      (pss_cons (ps_set (i := 10) sc_law_right.nd rfl (.inl rfl) (pe_cl c_not_led hr (by decide) rfl (pa_cons (pv 0) (pa_cons pe_int pa_nil))))
      (pss_one (ps_ret (pe_cmpR (op_eqA hr.units) (pe_cl c_not_led hr (by decide) rfl (pa_cons (pv 2) (pa_cons pe_int pa_nil))) (pe_ifExp (pt_cmpR op_isN1 (pv 10) pe_non (nomark _)) pe_non (pe_op op_addA (pv 10) (pv 1))) (nomark _)))))))))))), pure_law_right F h⟩

theorem sc_law : FnScope N_law ["_law_script"] (defScope s_law) := ⟨rfl, rfl, rfl, by decide +kernel, rfl, by decide +kernel, by decide +kernel⟩
theorem fnok_law (B : Bl mg) (C : Cn K mg) (F : FindC K w) (c_law_spring : Cl P w K mg base 1 "_law_spring" (sp_law_spring K w)) (c_law_straight : Cl P w K mg base 3 "_law_straight" (sp_law_straight K w)) (c_law_draw : Cl P w K mg base 1 "_law_draw" (sp_law_draw K w)) (c_law_made : Cl P w K mg base 12 "_law_made" (sp_law_made K w)) (c_law_right : Cl P w K mg base 9 "_law_right" (sp_law_right K w)) {f : Addr} {fd : FuncData} (D : FnP K "law" s_law f fd) : FnOk P w K mg base CX0 13 f fd ["_law_script"] (sp_law K w) :=
  fn_of1 D sc_law (fun vs H Q E h => len_law h) fun cdv A outer s H vs Q E hr h => ⟨t_law K w, PSs.nox (pss_cons (ps_set (i := 1) sc_law.nd rfl (.inl rfl) (pe_cl c_law_spring hr (by decide) rfl (pa_cons (pv 0) pa_nil)))
      (pss_cons (ps_for PassesOwn.never rfl (pi_range1 rfl B.b_range (pa_cons (pe_op op_addA pe_int (pe_callB (call_min2A rfl) (by rfl) B.b_min (by decide +kernel) (pa_cons (pe_callB call_lenA (by rfl) B.b_len (by decide +kernel) (pa_cons (pv 0) pa_nil)) (pa_cons pe_int pa_nil)))) pa_nil)) (pg_name (i := 2) sc_law.nd rfl (.inl rfl))
      (pss_cons (ps_set (i := 3) sc_law.nd rfl (.inl rfl) (pe_cl c_law_straight hr (by decide) rfl (pa_cons (pv 1) pa_nil)))
      (pss_cons (ps_if (pt_cmpR (op_eqA hr.units) (pe_cl c_law_draw hr (by decide) rfl (pa_cons (pv 1) (pa_cons pe_int pa_nil))) pe_int (nomark _))
      (pss_one (ps_set (i := 3) sc_law.nd rfl (.inl rfl) (pe_ix ix_seq (pe_cl c_law_made hr (by decide) rfl (pa_cons (pv 1) (pa_cons (pe_lst pa_nil) pa_nil))) pe_int (fun _ _ => rfl))))
      pss_nil)
      (pss_one (ps_if (pt_not (pt_val (pe_cl c_law_right hr (by decide) rfl (pa_cons (pv 3) (pa_cons (pe_callB (call_min2A rfl) (by rfl) B.b_min (by decide +kernel) (pa_cons (pe_op op_addA pe_int (pe_cl c_law_draw hr (by decide) rfl (pa_cons (pv 1) (pa_cons pe_int pa_nil)))) (pa_cons (pe_op op_subA pe_int (pe_callB call_lenA (by rfl) B.b_len (by decide +kernel) (pa_cons (pv 3) pa_nil))) pa_nil))) pa_nil))) (by intro _; rfl)))
      (pss_one (ps_ret pe_bl))
      pss_nil)))))
      (pss_one (ps_ret pe_bl)))), pure_law F h⟩

end
end Rl
namespace Rl
open PySem PySem.Spec PyProof.Rows L2 NdefX LamX
/-! ## the head: facts by names, the run -/
def d_short_row : He.DefD := ⟨("short_row", none), "short_row", "short_row", defArgs s_short_row, defBody s_short_row, defScope s_short_row, [], []⟩
def d_long_row : He.DefD := ⟨("long_row", none), "long_row", "long_row", defArgs s_long_row, defBody s_long_row, defScope s_long_row, [], []⟩
def d_row_at : He.DefD := ⟨("row_at", none), "row_at", "row_at", defArgs s_row_at, defBody s_row_at, defScope s_row_at, [], []⟩
def d_behind_and_target : He.DefD := ⟨("behind_and_target", none), "behind_and_target", "behind_and_target", defArgs s_behind_and_target, defBody s_behind_and_target, defScope s_behind_and_target, [], []⟩
def d_is_call : He.DefD := ⟨("is_call", none), "is_call", "is_call", defArgs s_is_call, defBody s_is_call, defScope s_is_call, [], []⟩
def d_goes_on : He.DefD := ⟨("goes_on", none), "goes_on", "goes_on", defArgs s_goes_on, defBody s_goes_on, defScope s_goes_on, [], []⟩
def d_all_from : He.DefD := ⟨("all_from", none), "all_from", "all_from", defArgs s_all_from, defBody s_all_from, defScope s_all_from, [], []⟩
def d_found_places : He.DefD := ⟨("found_places", none), "found_places", "found_places", defArgs s_found_places, defBody s_found_places, defScope s_found_places, [], []⟩
def d_found_rows : He.DefD := ⟨("found_rows", none), "found_rows", "found_rows", defArgs s_found_rows, defBody s_found_rows, defScope s_found_rows, [], []⟩
def d_ways_within : He.DefD := ⟨("ways_within", none), "ways_within", "ways_within", defArgs s_ways_within, defBody s_ways_within, defScope s_ways_within, [], []⟩
def d_come_to : He.DefD := ⟨("come_to", none), "come_to", "come_to", defArgs s_come_to, defBody s_come_to, defScope s_come_to, [], []⟩
def d_leaders : He.DefD := ⟨("leaders", none), "leaders", "leaders", defArgs s_leaders, defBody s_leaders, defScope s_leaders, [], []⟩
def d_led_over : He.DefD := ⟨("led_over", none), "led_over", "led_over", defArgs s_led_over, defBody s_led_over, defScope s_led_over, [], []⟩
def d_turns_back : He.DefD := ⟨("turns_back", none), "turns_back", "turns_back", defArgs s_turns_back, defBody s_turns_back, defScope s_turns_back, [], []⟩
def d_turned_away : He.DefD := ⟨("turned_away", none), "turned_away", "turned_away", defArgs s_turned_away, defBody s_turned_away, defScope s_turned_away, [], []⟩
def d_rings : He.DefD := ⟨("rings", none), "rings", "rings", defArgs s_rings, defBody s_rings, defScope s_rings, [], []⟩
def d_not_led : He.DefD := ⟨("not_led", none), "not_led", "not_led", defArgs s_not_led, defBody s_not_led, defScope s_not_led, [], []⟩
def d_law_spring : He.DefD := ⟨("_law_spring", none), "_law_spring", "_law_spring", defArgs s_law_spring, defBody s_law_spring, defScope s_law_spring, [], []⟩
def d_law_draw : He.DefD := ⟨("_law_draw", none), "_law_draw", "_law_draw", defArgs s_law_draw, defBody s_law_draw, defScope s_law_draw, [], []⟩
def d_law_bytes : He.DefD := ⟨("_law_bytes", none), "_law_bytes", "_law_bytes", defArgs s_law_bytes, defBody s_law_bytes, defScope s_law_bytes, [], []⟩
def d_law_drawn_row : He.DefD := ⟨("_law_drawn_row", none), "_law_drawn_row", "_law_drawn_row", defArgs s_law_drawn_row, defBody s_law_drawn_row, defScope s_law_drawn_row, [], []⟩
def d_law_tree : He.DefD := ⟨("_law_tree", none), "_law_tree", "_law_tree", defArgs s_law_tree, defBody s_law_tree, defScope s_law_tree, [], []⟩
def d_law_if_laid : He.DefD := ⟨("_law_if_laid", none), "_law_if_laid", "_law_if_laid", defArgs s_law_if_laid, defBody s_law_if_laid, defScope s_law_if_laid, [], []⟩
def d_law_loop_laid : He.DefD := ⟨("_law_loop_laid", none), "_law_loop_laid", "_law_loop_laid", defArgs s_law_loop_laid, defBody s_law_loop_laid, defScope s_law_loop_laid, [], []⟩
def d_law_tree_laid : He.DefD := ⟨("_law_tree_laid", none), "_law_tree_laid", "_law_tree_laid", defArgs s_law_tree_laid, defBody s_law_tree_laid, defScope s_law_tree_laid, [], []⟩
def d_law_made : He.DefD := ⟨("_law_made", none), "_law_made", "_law_made", defArgs s_law_made, defBody s_law_made, defScope s_law_made, [], []⟩
def d_law_straight : He.DefD := ⟨("_law_straight", none), "_law_straight", "_law_straight", defArgs s_law_straight, defBody s_law_straight, defScope s_law_straight, [], []⟩
def d_law_moved : He.DefD := ⟨("_law_moved", none), "_law_moved", "_law_moved", defArgs s_law_moved, defBody s_law_moved, defScope s_law_moved, [], []⟩
def d_law_right : He.DefD := ⟨("_law_right", none), "_law_right", "_law_right", defArgs s_law_right, defBody s_law_right, defScope s_law_right, [], []⟩
def d_law : He.DefD := ⟨("law", none), "law", "law", defArgs s_law, defBody s_law, defScope s_law, [], []⟩
def fn : List He.DefD := [d_short_row, d_long_row, d_row_at, d_behind_and_target, d_is_call, d_goes_on, d_all_from, d_found_places, d_found_rows, d_ways_within, d_come_to, d_leaders, d_led_over, d_turns_back, d_turned_away, d_rings, d_not_led, d_law_spring, d_law_draw, d_law_bytes, d_law_drawn_row, d_law_tree, d_law_if_laid, d_law_loop_laid, d_law_tree_laid, d_law_made, d_law_straight, d_law_moved, d_law_right, d_law]
def fa : List He.Fa := [.glo "short_row", .glo "long_row", .glo "row_at", .glo "behind_and_target", .glo "is_call", .glo "goes_on", .glo "all_from", .glo "found_places", .glo "found_rows", .glo "ways_within", .glo "come_to", .glo "leaders", .glo "led_over", .glo "turns_back", .glo "turned_away", .glo "rings", .glo "not_led", .glo "_law_spring", .glo "_law_draw", .glo "_law_bytes", .glo "_law_drawn_row", .glo "_law_tree", .glo "_law_if_laid", .glo "_law_loop_laid", .glo "_law_tree_laid", .glo "_law_made", .glo "_law_straight", .glo "_law_moved", .glo "_law_right", .glo "law", .glo "ALONE", .str "BOXES" "abcd", .glo "ENDS", .int "JUMPS" (14), .glo "SINGLE", .int "SINGLES" (15), .glo "TARGETS", .glo "WORDS_OF_NUMBERED", .glo "WORDS_OF_PAIRS", .free "abs", .free "any", .free "int", .free "isinstance", .free "len", .free "list", .free "min", .free "range", .free "sorted"]
def ex (K : PySem.W.Frag) : Bool := He.tupB K "ALONE" [(.str "halt"), (.str "back"), (.str "rest")] && (He.tupB K "SINGLE" [(.str "in"), (.str "out"), (.str "keep"), (.str "take")] && (He.tupB K "TARGETS" [(.str "go"), (.str "zero"), (.str "nonzero"), (.str "less"), (.str "notless"), (.str "call")] && (He.tupB K "ENDS" [(.str "halt"), (.str "back"), (.str "go")] && (kdI K (He.ga K "WORDS_OF_PAIRS") [(2, (.str "copy")), (3, (.str "add")), (4, (.str "sub")), (5, (.str "and")), (6, (.str "or")), (7, (.str "xor")), (8, (.str "test")), (10, (.str "load")), (11, (.str "store"))] && (kdI K (He.ga K "WORDS_OF_NUMBERED") [(1, (.str "set")), (9, (.str "testn")), (12, (.str "loadn")), (13, (.str "storen"))])))))
abbrev Rw : PySem.W.OpenRow := PySem.W.OpenLaw.row PySem.Challenge.rw_rowlift_k39_whole_rows_put_ahead
abbrev hk : PySem.W.Hook := He.hookX 6 fa fn [] [("found_places", none)] ex
def ob (s : PySem.W.SharedT) : He.AlX := He.obsX 6 fa fn [] [("found_places", none)] ex (HandSHeadRun.getT s)
theorem ob_eq (s : PySem.W.SharedT) : ob s = hk.obs s.abs := He.obsX_eq (HandSHeadRun.getT_eq s)
theorem runF (w : World) : HandSHeadRun.RunEq Rw (PySem.W.view Rw.prog [42]) hk ob 3000 ("BOXES" :: "ALONE" :: "WORDS_OF_PAIRS" :: "WORDS_OF_NUMBERED" :: "TARGETS" :: "SINGLE" :: "JUMPS" :: "SINGLES" :: "short_row" :: "long_row" :: "row_at" :: "ENDS" :: "behind_and_target" :: "goes_on" :: "is_call" :: "all_from" :: "found_places" :: "found_rows" :: "ways_within" :: "come_to" :: "leaders" :: "led_over" :: "turns_back" :: "turned_away" :: "rings" :: "not_led" :: "_law_spring" :: "_law_draw" :: "_law_bytes" :: "_law_drawn_row" :: "_law_straight" :: "_law_tree" :: "_law_if_laid" :: "_law_loop_laid" :: "_law_tree_laid" :: "_law_made" :: "_law_moved" :: "_law_right" :: []) (w.withFollow "special-get-raises" false) := by
  intro os
  kernel_rfl
theorem runT (w : World) : HandSHeadRun.RunEq Rw (PySem.W.view Rw.prog [42]) hk ob 3000 ("BOXES" :: "ALONE" :: "WORDS_OF_PAIRS" :: "WORDS_OF_NUMBERED" :: "TARGETS" :: "SINGLE" :: "JUMPS" :: "SINGLES" :: "short_row" :: "long_row" :: "row_at" :: "ENDS" :: "behind_and_target" :: "goes_on" :: "is_call" :: "all_from" :: "found_places" :: "found_rows" :: "ways_within" :: "come_to" :: "leaders" :: "led_over" :: "turns_back" :: "turned_away" :: "rings" :: "not_led" :: "_law_spring" :: "_law_draw" :: "_law_bytes" :: "_law_drawn_row" :: "_law_straight" :: "_law_tree" :: "_law_if_laid" :: "_law_loop_laid" :: "_law_tree_laid" :: "_law_made" :: "_law_moved" :: "_law_right" :: []) (w.withFollow "special-get-raises" true) := by
  intro os
  kernel_rfl
theorem run (w : World) : HandSHeadRun.RunEq Rw (PySem.W.view Rw.prog [42]) hk ob 3000 ("BOXES" :: "ALONE" :: "WORDS_OF_PAIRS" :: "WORDS_OF_NUMBERED" :: "TARGETS" :: "SINGLE" :: "JUMPS" :: "SINGLES" :: "short_row" :: "long_row" :: "row_at" :: "ENDS" :: "behind_and_target" :: "goes_on" :: "is_call" :: "all_from" :: "found_places" :: "found_rows" :: "ways_within" :: "come_to" :: "leaders" :: "led_over" :: "turns_back" :: "turned_away" :: "rings" :: "not_led" :: "_law_spring" :: "_law_draw" :: "_law_bytes" :: "_law_drawn_row" :: "_law_straight" :: "_law_tree" :: "_law_if_laid" :: "_law_loop_laid" :: "_law_tree_laid" :: "_law_made" :: "_law_moved" :: "_law_right" :: []) w := PySem.W.byRow2 "special-get-raises" (P := fun w => HandSHeadRun.RunEq Rw (PySem.W.view Rw.prog [42]) hk ob 3000 ("BOXES" :: "ALONE" :: "WORDS_OF_PAIRS" :: "WORDS_OF_NUMBERED" :: "TARGETS" :: "SINGLE" :: "JUMPS" :: "SINGLES" :: "short_row" :: "long_row" :: "row_at" :: "ENDS" :: "behind_and_target" :: "goes_on" :: "is_call" :: "all_from" :: "found_places" :: "found_rows" :: "ways_within" :: "come_to" :: "leaders" :: "led_over" :: "turns_back" :: "turned_away" :: "rings" :: "not_led" :: "_law_spring" :: "_law_draw" :: "_law_bytes" :: "_law_drawn_row" :: "_law_straight" :: "_law_tree" :: "_law_if_laid" :: "_law_loop_laid" :: "_law_tree_laid" :: "_law_made" :: "_law_moved" :: "_law_right" :: []) w) runF runT w
theorem facts {P : Program} {w : World} {K : PySem.W.Frag} {h : Heap} {mg : Str → Option Value} {f : Addr} (X : K.In h) (G : h.Ns mainGlobals mg) (hfa : mg ("law" : Str) = some (.ref f)) (c : He.SaysX fa fn [] [("found_places", none)] ex w h K) :
    ∃ fd : FuncData, (∀ (s : Shared) (v : Value), BindsTo s fd ⟨[v], []⟩ [("_law_script", v)]) ∧ ∀ base : Heap, K.In base → base.Ns mainGlobals mg → (∀ p ∈ [He.cT K ("found_places", none)], TabB base mg p.1 p.2) → FnOk P w K mg base CX0 13 f fd ["_law_script"] (sp_law K w) := by
  have more := c.more
  unfold ex at more
  obtain ⟨x0, r0⟩ := He.ba more
  obtain ⟨x1, r1⟩ := He.ba r0
  obtain ⟨x2, r2⟩ := He.ba r1
  obtain ⟨x3, r3⟩ := He.ba r2
  obtain ⟨x4, r4⟩ := He.ba r3
  have x5 := r4
  have F : FindC K w := ⟨⟨fun H => He.tupB_ok x0 H, fun H => He.tupB_ok x1 H, fun H => He.tupB_ok x2 H, kdI_ok x4, kdI_ok x5⟩, fun H => He.tupB_ok x3 H⟩
  have B : Bl mg := ⟨He.free_ok X G (c.t.d.fact 39 (f := .free "abs") rfl), He.free_ok X G (c.t.d.fact 40 (f := .free "any") rfl), He.free_ok X G (c.t.d.fact 41 (f := .free "int") rfl), He.free_ok X G (c.t.d.fact 42 (f := .free "isinstance") rfl), He.free_ok X G (c.t.d.fact 43 (f := .free "len") rfl), He.free_ok X G (c.t.d.fact 44 (f := .free "list") rfl), He.free_ok X G (c.t.d.fact 45 (f := .free "min") rfl), He.free_ok X G (c.t.d.fact 46 (f := .free "range") rfl), He.free_ok X G (c.t.d.fact 47 (f := .free "sorted") rfl)⟩
  have C : Cn K mg := ⟨He.glo_ok X G (c.t.d.fact 30 (f := .glo "ALONE") rfl), He.str_ok X G (c.t.d.fact 31 (f := .str "BOXES" "abcd") rfl), He.glo_ok X G (c.t.d.fact 32 (f := .glo "ENDS") rfl), He.int_ok X G (c.t.d.fact 33 (f := .int "JUMPS" (14)) rfl), He.glo_ok X G (c.t.d.fact 34 (f := .glo "SINGLE") rfl), He.int_ok X G (c.t.d.fact 35 (f := .int "SINGLES" (15)) rfl), He.glo_ok X G (c.t.d.fact 36 (f := .glo "TARGETS") rfl), He.glo_ok X G (c.t.d.fact 37 (f := .glo "WORDS_OF_NUMBERED") rfl), He.glo_ok X G (c.t.d.fact 38 (f := .glo "WORDS_OF_PAIRS") rfl)⟩
  obtain ⟨fd_short_row, D_short_row⟩ := c.t.d.def_ 0 (d := d_short_row) rfl
  have c_short_row : ∀ (base : Heap) (tb : ∀ p ∈ [He.cT K ("found_places", none)], TabB base mg p.1 p.2), Cl P w K mg base 1 "short_row" (sp_short_row K w) := fun base tb => cl_short_row B C F D_short_row (He.glo_ok X G (c.t.d.fact 0 (f := .glo "short_row") rfl)) (D_short_row.bindsN fun _ _ _ _ _ _ us hl => match us, hl with | [_], _ => rfl)
  obtain ⟨fd_long_row, D_long_row⟩ := c.t.d.def_ 1 (d := d_long_row) rfl
  have c_long_row : ∀ (base : Heap) (tb : ∀ p ∈ [He.cT K ("found_places", none)], TabB base mg p.1 p.2), Cl P w K mg base 1 "long_row" (sp_long_row K w) := fun base tb => cl_long_row B C F D_long_row (He.glo_ok X G (c.t.d.fact 1 (f := .glo "long_row") rfl)) (D_long_row.bindsN fun _ _ _ _ _ _ us hl => match us, hl with | [_, _], _ => rfl)
  obtain ⟨fd_row_at, D_row_at⟩ := c.t.d.def_ 2 (d := d_row_at) rfl
  have c_row_at : ∀ (base : Heap) (tb : ∀ p ∈ [He.cT K ("found_places", none)], TabB base mg p.1 p.2), Cl P w K mg base 2 "row_at" (sp_row_at K w) := fun base tb => cl_row_at B C F (c_short_row base tb) (c_long_row base tb) D_row_at (He.glo_ok X G (c.t.d.fact 2 (f := .glo "row_at") rfl)) (D_row_at.bindsN fun _ _ _ _ _ _ us hl => match us, hl with | [_, _], _ => rfl)
  obtain ⟨fd_behind_and_target, D_behind_and_target⟩ := c.t.d.def_ 3 (d := d_behind_and_target) rfl
  have c_behind_and_target : ∀ (base : Heap) (tb : ∀ p ∈ [He.cT K ("found_places", none)], TabB base mg p.1 p.2), Cl P w K mg base 3 "behind_and_target" (sp_behind_and_target K w) := fun base tb => cl_behind_and_target B C F (c_row_at base tb) D_behind_and_target (He.glo_ok X G (c.t.d.fact 3 (f := .glo "behind_and_target") rfl)) (D_behind_and_target.bindsN fun _ _ _ _ _ _ us hl => match us, hl with | [_, _], _ => rfl)
  obtain ⟨fd_is_call, D_is_call⟩ := c.t.d.def_ 4 (d := d_is_call) rfl
  have c_is_call : ∀ (base : Heap) (tb : ∀ p ∈ [He.cT K ("found_places", none)], TabB base mg p.1 p.2), Cl P w K mg base 3 "is_call" (sp_is_call K w) := fun base tb => cl_is_call B C F (c_row_at base tb) D_is_call (He.glo_ok X G (c.t.d.fact 4 (f := .glo "is_call") rfl)) (D_is_call.bindsN fun _ _ _ _ _ _ us hl => match us, hl with | [_, _], _ => rfl)
  obtain ⟨fd_goes_on, D_goes_on⟩ := c.t.d.def_ 5 (d := d_goes_on) rfl
  have c_goes_on : ∀ (base : Heap) (tb : ∀ p ∈ [He.cT K ("found_places", none)], TabB base mg p.1 p.2), Cl P w K mg base 4 "goes_on" (sp_goes_on K w) := fun base tb => cl_goes_on B C F (c_behind_and_target base tb) (c_is_call base tb) D_goes_on (He.glo_ok X G (c.t.d.fact 5 (f := .glo "goes_on") rfl)) (D_goes_on.bindsN fun _ _ _ _ _ _ us hl => match us, hl with | [_, _], _ => rfl)
  have n_found_places_onward : ∀ (base : Heap) (tb : ∀ p ∈ [He.cT K ("found_places", none)], TabB base mg p.1 p.2) (f : Addr) (cl : List (Str × Addr)) (c2 : Addr), NOk P w K mg base CX0 4 f (NF.of on_found_places "onward" on_q_found_places cl c2) ["address"] ["code"] (spCap (sp_found_places_onward K w)) := fun base tb f cl c2 => nok_found_places_onward B C F (c_behind_and_target base tb) f cl c2
  obtain ⟨fd_all_from, D_all_from⟩ := c.t.d.def_ 6 (d := d_all_from) rfl
  have c_on : ∀ (base : Heap) (tb : ∀ p ∈ [He.cT K ("found_places", none)], TabB base mg p.1 p.2) (f : Addr) (F2 : NF) (sp : Addr → Sp), OnP K F2 sp → NOk P w K mg base CX0 4 f F2 ["address"] ["code"] (spCap sp) := fun base tb f F2 sp h => on_known K w (fun f cl c2 => n_found_places_onward base tb f cl c2) h
  have c_all_from : ∀ (base : Heap) (tb : ∀ p ∈ [He.cT K ("found_places", none)], TabB base mg p.1 p.2), Cl P w K mg base 5 "all_from" (sp_all_from K w) := fun base tb => cl_all_from B C F (c_on base tb) D_all_from (He.glo_ok X G (c.t.d.fact 6 (f := .glo "all_from") rfl)) (D_all_from.bindsN fun _ _ _ _ _ _ us hl => match us, hl with | [_, _], _ => rfl)
  obtain ⟨fd_found_places, D_found_places⟩ := c.t.d.def_ 7 (d := d_found_places) rfl
  have c_found_places : ∀ (base : Heap) (tb : ∀ p ∈ [He.cT K ("found_places", none)], TabB base mg p.1 p.2), Cl P w K mg base 6 "found_places" (sp_found_places K w) := fun base tb => cl_found_places B C F (c_all_from base tb) (tb _ (by simp)) D_found_places (He.glo_ok X G (c.t.d.fact 7 (f := .glo "found_places") rfl)) (D_found_places.bindsN fun _ _ _ _ _ _ us hl => match us, hl with | [_], _ => rfl)
  obtain ⟨fd_found_rows, D_found_rows⟩ := c.t.d.def_ 8 (d := d_found_rows) rfl
  have c_found_rows : ∀ (base : Heap) (tb : ∀ p ∈ [He.cT K ("found_places", none)], TabB base mg p.1 p.2), Cl P w K mg base 7 "found_rows" (sp_found_rows K w) := fun base tb => cl_found_rows B C F (c_found_places base tb) (c_row_at base tb) D_found_rows (He.glo_ok X G (c.t.d.fact 8 (f := .glo "found_rows") rfl)) (D_found_rows.bindsN fun _ _ _ _ _ _ us hl => match us, hl with | [_], _ => rfl)
  obtain ⟨fd_ways_within, D_ways_within⟩ := c.t.d.def_ 9 (d := d_ways_within) rfl
  have c_ways_within : ∀ (base : Heap) (tb : ∀ p ∈ [He.cT K ("found_places", none)], TabB base mg p.1 p.2), Cl P w K mg base 5 "ways_within" (sp_ways_within K w) := fun base tb => cl_ways_within B C F (c_goes_on base tb) D_ways_within (He.glo_ok X G (c.t.d.fact 9 (f := .glo "ways_within") rfl)) (D_ways_within.bindsN fun _ _ _ _ _ _ us hl => match us, hl with | [_, _], _ => rfl)
  obtain ⟨fd_come_to, D_come_to⟩ := c.t.d.def_ 10 (d := d_come_to) rfl
  have c_come_to : ∀ (base : Heap) (tb : ∀ p ∈ [He.cT K ("found_places", none)], TabB base mg p.1 p.2), Cl P w K mg base 1 "come_to" (sp_come_to K w) := fun base tb => cl_come_to B C F D_come_to (He.glo_ok X G (c.t.d.fact 10 (f := .glo "come_to") rfl)) (D_come_to.bindsN fun _ _ _ _ _ _ us hl => match us, hl with | [_, _, _], _ => rfl)
  obtain ⟨fd_leaders, D_leaders⟩ := c.t.d.def_ 11 (d := d_leaders) rfl
  have c_leaders : ∀ (base : Heap) (tb : ∀ p ∈ [He.cT K ("found_places", none)], TabB base mg p.1 p.2), Cl P w K mg base 2 "leaders" (sp_leaders K w) := fun base tb => cl_leaders B C F (c_come_to base tb) D_leaders (He.glo_ok X G (c.t.d.fact 11 (f := .glo "leaders") rfl)) (D_leaders.bindsN fun _ _ _ _ _ _ us hl => match us, hl with | [_, _], _ => rfl)
  obtain ⟨fd_led_over, D_led_over⟩ := c.t.d.def_ 12 (d := d_led_over) rfl
  have c_led_over : ∀ (base : Heap) (tb : ∀ p ∈ [He.cT K ("found_places", none)], TabB base mg p.1 p.2), Cl P w K mg base 6 "led_over" (sp_led_over K w) := fun base tb => cl_led_over B C F (c_leaders base tb) (c_ways_within base tb) D_led_over (He.glo_ok X G (c.t.d.fact 12 (f := .glo "led_over") rfl)) (D_led_over.bindsN fun _ _ _ _ _ _ us hl => match us, hl with | [_, _], _ => rfl)
  obtain ⟨fd_turns_back, D_turns_back⟩ := c.t.d.def_ 13 (d := d_turns_back) rfl
  have c_turns_back : ∀ (base : Heap) (tb : ∀ p ∈ [He.cT K ("found_places", none)], TabB base mg p.1 p.2), Cl P w K mg base 3 "turns_back" (sp_turns_back K w) := fun base tb => cl_turns_back B C F (c_leaders base tb) D_turns_back (He.glo_ok X G (c.t.d.fact 13 (f := .glo "turns_back") rfl)) (D_turns_back.bindsN fun _ _ _ _ _ _ us hl => match us, hl with | [_, _], _ => rfl)
  obtain ⟨fd_turned_away, D_turned_away⟩ := c.t.d.def_ 14 (d := d_turned_away) rfl
  have c_turned_away : ∀ (base : Heap) (tb : ∀ p ∈ [He.cT K ("found_places", none)], TabB base mg p.1 p.2), Cl P w K mg base 1 "turned_away" (sp_turned_away K w) := fun base tb => cl_turned_away B C F D_turned_away (He.glo_ok X G (c.t.d.fact 14 (f := .glo "turned_away") rfl)) (D_turned_away.bindsN fun _ _ _ _ _ _ us hl => match us, hl with | [_], _ => rfl)
  obtain ⟨fd_rings, D_rings⟩ := c.t.d.def_ 15 (d := d_rings) rfl
  have c_rings : ∀ (base : Heap) (tb : ∀ p ∈ [He.cT K ("found_places", none)], TabB base mg p.1 p.2), Cl P w K mg base 6 "rings" (sp_rings K w) := fun base tb => cl_rings B C F (c_ways_within base tb) (c_turned_away base tb) (c_turns_back base tb) (c_come_to base tb) D_rings (He.glo_ok X G (c.t.d.fact 15 (f := .glo "rings") rfl)) (D_rings.bindsN fun _ _ _ _ _ _ us hl => match us, hl with | [_, _], _ => rfl)
  obtain ⟨fd_not_led, D_not_led⟩ := c.t.d.def_ 16 (d := d_not_led) rfl
  have c_not_led : ∀ (base : Heap) (tb : ∀ p ∈ [He.cT K ("found_places", none)], TabB base mg p.1 p.2), Cl P w K mg base 6 "not_led" (sp_not_led K w) := fun base tb => cl_not_led B C F (c_ways_within base tb) (c_turns_back base tb) (c_come_to base tb) D_not_led (He.glo_ok X G (c.t.d.fact 16 (f := .glo "not_led") rfl)) (D_not_led.bindsN fun _ _ _ _ _ _ us hl => match us, hl with | [_, _], _ => rfl)
  obtain ⟨fd_law_spring, D_law_spring⟩ := c.t.d.def_ 17 (d := d_law_spring) rfl
  have c_law_spring : ∀ (base : Heap) (tb : ∀ p ∈ [He.cT K ("found_places", none)], TabB base mg p.1 p.2), Cl P w K mg base 1 "_law_spring" (sp_law_spring K w) := fun base tb => cl_law_spring B C F D_law_spring (He.glo_ok X G (c.t.d.fact 17 (f := .glo "_law_spring") rfl)) (D_law_spring.bindsN fun _ _ _ _ _ _ us hl => match us, hl with | [_], _ => rfl)
  obtain ⟨fd_law_draw, D_law_draw⟩ := c.t.d.def_ 18 (d := d_law_draw) rfl
  have c_law_draw : ∀ (base : Heap) (tb : ∀ p ∈ [He.cT K ("found_places", none)], TabB base mg p.1 p.2), Cl P w K mg base 1 "_law_draw" (sp_law_draw K w) := fun base tb => cl_law_draw B C F D_law_draw (He.glo_ok X G (c.t.d.fact 18 (f := .glo "_law_draw") rfl)) (D_law_draw.bindsN fun _ _ _ _ _ _ us hl => match us, hl with | [_, _], _ => rfl)
  obtain ⟨fd_law_bytes, D_law_bytes⟩ := c.t.d.def_ 19 (d := d_law_bytes) rfl
  have c_law_bytes : ∀ (base : Heap) (tb : ∀ p ∈ [He.cT K ("found_places", none)], TabB base mg p.1 p.2), Cl P w K mg base 1 "_law_bytes" (sp_law_bytes K w) := fun base tb => cl_law_bytes B C F D_law_bytes (He.glo_ok X G (c.t.d.fact 19 (f := .glo "_law_bytes") rfl)) (D_law_bytes.bindsN fun _ _ _ _ _ _ us hl => match us, hl with | [_], _ => rfl)
  obtain ⟨fd_law_drawn_row, D_law_drawn_row⟩ := c.t.d.def_ 20 (d := d_law_drawn_row) rfl
  have c_law_drawn_row : ∀ (base : Heap) (tb : ∀ p ∈ [He.cT K ("found_places", none)], TabB base mg p.1 p.2), Cl P w K mg base 2 "_law_drawn_row" (sp_law_drawn_row K w) := fun base tb => cl_law_drawn_row B C F (c_law_draw base tb) D_law_drawn_row (He.glo_ok X G (c.t.d.fact 20 (f := .glo "_law_drawn_row") rfl)) (D_law_drawn_row.bindsN fun _ _ _ _ _ _ us hl => match us, hl with | [_], _ => rfl)
  obtain ⟨fd_law_tree, D_law_tree⟩ := c.t.d.def_ 21 (d := d_law_tree) rfl
  have c_law_tree : ∀ (base : Heap) (tb : ∀ p ∈ [He.cT K ("found_places", none)], TabB base mg p.1 p.2), Cl P w K mg base 5 "_law_tree" (sp_law_tree K w) := fun base tb => cl_law_tree B C F (c_law_draw base tb) D_law_tree (He.glo_ok X G (c.t.d.fact 21 (f := .glo "_law_tree") rfl)) (D_law_tree.bindsN fun _ _ _ _ _ _ us hl => match us, hl with | [_, _], _ => rfl)
  obtain ⟨fd_law_if_laid, D_law_if_laid⟩ := c.t.d.def_ 22 (d := d_law_if_laid) rfl
  obtain ⟨fd_law_loop_laid, D_law_loop_laid⟩ := c.t.d.def_ 23 (d := d_law_loop_laid) rfl
  obtain ⟨fd_law_tree_laid, D_law_tree_laid⟩ := c.t.d.def_ 24 (d := d_law_tree_laid) rfl
  have c_law_tree_laid : ∀ (base : Heap) (tb : ∀ p ∈ [He.cT K ("found_places", none)], TabB base mg p.1 p.2), Cl P w K mg base 11 "_law_tree_laid" (sp_law_tree_laid K w) := fun base tb => cl_law_tree_laid B C F (c_law_draw base tb) (He.glo_ok X G (c.t.d.fact 18 (f := .glo "_law_draw") rfl)) (He.glo_ok X G (c.t.d.fact 22 (f := .glo "_law_if_laid") rfl)) (He.glo_ok X G (c.t.d.fact 23 (f := .glo "_law_loop_laid") rfl)) D_law_tree_laid (He.glo_ok X G (c.t.d.fact 24 (f := .glo "_law_tree_laid") rfl)) (D_law_tree_laid.bindsN fun _ _ _ _ _ _ us hl => match us, hl with | [_, _], _ => rfl) D_law_if_laid (He.glo_ok X G (c.t.d.fact 22 (f := .glo "_law_if_laid") rfl)) (D_law_if_laid.bindsN fun _ _ _ _ _ _ us hl => match us, hl with | [_, _], _ => rfl) D_law_loop_laid (He.glo_ok X G (c.t.d.fact 23 (f := .glo "_law_loop_laid") rfl)) (D_law_loop_laid.bindsN fun _ _ _ _ _ _ us hl => match us, hl with | [_, _], _ => rfl)
  obtain ⟨fd_law_made, D_law_made⟩ := c.t.d.def_ 25 (d := d_law_made) rfl
  have c_law_made : ∀ (base : Heap) (tb : ∀ p ∈ [He.cT K ("found_places", none)], TabB base mg p.1 p.2), Cl P w K mg base 12 "_law_made" (sp_law_made K w) := fun base tb => cl_law_made B C F (c_law_tree_laid base tb) (c_law_tree base tb) (c_law_draw base tb) D_law_made (He.glo_ok X G (c.t.d.fact 25 (f := .glo "_law_made") rfl)) (D_law_made.bindsN fun _ _ _ _ _ _ us hl => match us, hl with | [_, _], _ => rfl)
  obtain ⟨fd_law_straight, D_law_straight⟩ := c.t.d.def_ 26 (d := d_law_straight) rfl
  have c_law_straight : ∀ (base : Heap) (tb : ∀ p ∈ [He.cT K ("found_places", none)], TabB base mg p.1 p.2), Cl P w K mg base 3 "_law_straight" (sp_law_straight K w) := fun base tb => cl_law_straight B C F (c_law_draw base tb) (c_law_drawn_row base tb) (c_law_bytes base tb) D_law_straight (He.glo_ok X G (c.t.d.fact 26 (f := .glo "_law_straight") rfl)) (D_law_straight.bindsN fun _ _ _ _ _ _ us hl => match us, hl with | [_], _ => rfl)
  obtain ⟨fd_law_moved, D_law_moved⟩ := c.t.d.def_ 27 (d := d_law_moved) rfl
  have c_law_moved : ∀ (base : Heap) (tb : ∀ p ∈ [He.cT K ("found_places", none)], TabB base mg p.1 p.2), Cl P w K mg base 8 "_law_moved" (sp_law_moved K w) := fun base tb => cl_law_moved B C F (c_found_rows base tb) (c_law_bytes base tb) D_law_moved (He.glo_ok X G (c.t.d.fact 27 (f := .glo "_law_moved") rfl)) (D_law_moved.bindsN fun _ _ _ _ _ _ us hl => match us, hl with | [_, _], _ => rfl)
  obtain ⟨fd_law_right, D_law_right⟩ := c.t.d.def_ 28 (d := d_law_right) rfl
  have c_law_right : ∀ (base : Heap) (tb : ∀ p ∈ [He.cT K ("found_places", none)], TabB base mg p.1 p.2), Cl P w K mg base 9 "_law_right" (sp_law_right K w) := fun base tb => cl_law_right B C F (c_law_moved base tb) (c_led_over base tb) (c_rings base tb) (c_not_led base tb) D_law_right (He.glo_ok X G (c.t.d.fact 28 (f := .glo "_law_right") rfl)) (D_law_right.bindsN fun _ _ _ _ _ _ us hl => match us, hl with | [_, _], _ => rfl)
  obtain ⟨fd_law, D_law⟩ := c.t.d.def_ 29 (d := d_law) rfl
  have e := hfa.symm.trans (He.glo_ok X G (c.t.d.fact 29 (f := .glo "law") rfl))
  cases e
  have b := FunD.bindsA (ps := ["_law_script"]) D_law fun _ _ _ _ _ _ us hl => match us, hl with | [_], _ => rfl
  exact ⟨fd_law, fun s v => b s [v] rfl, fun base _ _ tb => fnok_law B C F (c_law_spring base tb) (c_law_straight base tb) (c_law_draw base tb) (c_law_made base tb) (c_law_right base tb) D_law⟩
end Rl
open PySem PySem.W PySem.Calls PyProof.Rows
theorem PySem.Challenge.cw_rowlift_k39_whole_rows_put_ahead_holds : PySem.Challenge.rw_rowlift_k39_whole_rows_put_ahead.Holds := by
  w_on; o_law
  refine HandSHeadRun.head_any (r := OpenLaw.row PySem.Challenge.rw_rowlift_k39_whole_rows_put_ahead) (q := view (OpenLaw.row PySem.Challenge.rw_rowlift_k39_whole_rows_put_ahead).prog [42]) (H := Rl.hk) (ob := Rl.ob) (M := 3000) (loose := ("BOXES" :: "ALONE" :: "WORDS_OF_PAIRS" :: "WORDS_OF_NUMBERED" :: "TARGETS" :: "SINGLE" :: "JUMPS" :: "SINGLES" :: "short_row" :: "long_row" :: "row_at" :: "ENDS" :: "behind_and_target" :: "goes_on" :: "is_call" :: "all_from" :: "found_places" :: "found_rows" :: "ways_within" :: "come_to" :: "leaders" :: "led_over" :: "turns_back" :: "turned_away" :: "rings" :: "not_led" :: "_law_spring" :: "_law_draw" :: "_law_bytes" :: "_law_drawn_row" :: "_law_straight" :: "_law_tree" :: "_law_if_laid" :: "_law_loop_laid" :: "_law_tree_laid" :: "_law_made" :: "_law_moved" :: "_law_right" :: [])) (d := HandSHeadRun.topDef (OpenLaw.row PySem.Challenge.rw_rowlift_k39_whole_rows_put_ahead).prog 42) (kwd := []) Rl.ob_eq
    (by kernel_rfl) (fun s => by kernel_rfl) Rl.run (by kernel_rfl) (by kernel_rfl) (by kernel_rfl) (by rfl) (by first | assumption | decide +kernel) (by decide +kernel) ⟨rfl, rfl, rfl, rfl, rfl, by decide +kernel⟩ ?hw ?hc
  case hw => w_witness2
  case hc =>
    refine LamX.walk_ofTsE (l := PySem.Challenge.rw_rowlift_k39_whole_rows_put_ahead) (n := 63) (k := 13) (x := "_law_script") (CX := fun _ => L2.CX0) rfl (by decide) (by kernel_rfl) ⟨rfl, by decide, by decide⟩ ?F (fun _ _ _ _ _ z => z)
    intro w mg fa h Y G hmg0
    obtain ⟨K, KX, c⟩ := Y
    have hmg : mg ("law" : PySem.Str) = some (.ref fa) := by
      have e : (HandSHeadRun.topDef (OpenLaw.row PySem.Challenge.rw_rowlift_k39_whole_rows_put_ahead).prog 42).name = ("law" : PySem.Str) := by kernel_rfl
      rw [← e]
      exact hmg0
    obtain ⟨fd, hb, hF⟩ := Rl.facts (P := (PySem.Challenge.rw_rowlift_k39_whole_rows_put_ahead).prog) (w := w) KX G hmg c
    have cs : ∀ p ∈ [He.cT K ("found_places", none)], ∃ d, d ∈ ([("found_places", none)] : List He.Defn) ∧ p = He.cT K d := by simp
    refine ⟨K, KX, fd, [He.cT K ("found_places", none)], Rl.sp_law K w, fun p hp => ?_, fun p hp => ?_, fun p hp => ?_, hb, fun H a ns hl _ hT hS => Rl.law_in hl (Rl.nt_start K H hT) hS, hF⟩
    · obtain ⟨d, hd, rfl⟩ := cs p hp
      exact c.empty d hd
    · obtain ⟨d, hd, rfl⟩ := cs p hp
      exact c.out d hd
    · obtain ⟨d, hd, rfl⟩ := cs p hp
      exact PySem.W.codeHd_of_K KX (c.hd d hd)
